import PyProof.Rows.All
import Wide.All
import OpenK.AllK
import Wide.FinOn
import HandS.ForMost
import HandS.ForExc
import HandS.Lambda
import HandS.Wide
import HandS.Flow
import HandS.TupAny
import HandS.TupLe
import HandS.Style
import HandS.Deep
import HandS.Codes
import HandS.Zip
import HandS.Gcd
import HandS.IsInst
import HandS.Text
import HandS.Conv
import HandS.WordsDict
import HandS.RaiseMore
import KE.KMathG
import PyProof.StrBlock2
import HandS.WordsExc
import HandS.EndBits
import HandS.Dict
import HandS.Small
import HandS.Exc
import KE.KExcInit
import HandS.TryMany
import HandS.ExcIs
import PyProof.Rows.SumAny
import PyProof.WalksMore
import PyProof.Rows.StrOr
import KE.KIntText
import PyProof.ReprLen
import HandS.EndTab
import KE.KRevSl
import KE.KNest
import HandS.Defaults
import HandS.MakeKw
import HandS.MakeKwOnly
import HandS.Sort
import HandS.SortOrd
import HandS.SortRule
import KE.DataEq
import PyProof.EqKinds
import PyProof.FactsAll.dict
import PyProof.P3Eq
import PyProof.Rows.ReprOcc
import PyProof.Rows.StrIntSpec
import PyProof.EnumMake
import PyProof.Draws
import HandS.Zip0
import HandS.WideBits
import PySem.Challenge.RW_nevertwice_k62_sides_beside_and_turns
set_option Elab.async false
set_option maxRecDepth 100000
set_option maxHeartbeats 2000000
/-! ND1: data by value over HandS's abstract heap: D, Rep, the growth of a heap, the state of a body, expressions' and statements' judgements -/
namespace ND
open PySem PySem.Spec PyProof.Rows L2

/-- a value by value -/
inductive D where
  | non | bl (b : Bool) | int (i : Int) | str (x : Str)
  | tup (xs : List D) | lst (xs : List D)
  | dic (kvs : List (Key × D))
  | obj (C : Str) (fs : List (Str × D))
  | opq (v : V)

/-- the written part, the module's names -/
structure Kn where
  K : PySem.W.Frag
  mg : Str → Option Value
mutual
/-- v is d, by the frozen part F -/
inductive Rep (K : Kn) (F : Hp) : V → D → Prop
  | non : Rep K F .non .non
  | bl (b : Bool) : Rep K F (.bl b) (.bl b)
  | int (i : Int) : Rep K F (.int i) (.int i)
  | str (x : Str) : Rep K F (.str x) (.str x)
  | tup {a : Addr} {xs : List V} {ds : List D} : SqT K.K F a xs → Reps K F xs ds → Rep K F (.ref a) (.tup ds)
  | lst {a : Addr} {xs : List V} {ds : List D} : F a = some (.lst xs) → Reps K F xs ds → Rep K F (.ref a) (.lst ds)
  | dic {a : Addr} {kvs : List (Key × V)} {ds : List (Key × D)} : F a = some (.dK kvs) → RepKs K F kvs ds → Rep K F (.ref a) (.dic ds)
  | obj {a C dx : Addr} {n : Str} {fs : List (Str × V)} {ds : List (Str × D)} : K.mg n = some (.ref C) → F a = some (.ins C dx fs) → RepFs K F fs ds → Rep K F (.ref a) (.obj n ds)
  | opq (v : V) : Rep K F v (.opq v)
inductive Reps (K : Kn) (F : Hp) : List V → List D → Prop
  | nil : Reps K F [] []
  | cons {v : V} {vs : List V} {d : D} {ds : List D} : Rep K F v d → Reps K F vs ds → Reps K F (v :: vs) (d :: ds)
inductive RepKs (K : Kn) (F : Hp) : List (Key × V) → List (Key × D) → Prop
  | nil : RepKs K F [] []
  | cons {k : Key} {v : V} {vs : List (Key × V)} {d : D} {ds : List (Key × D)} : Rep K F v d → RepKs K F vs ds → RepKs K F ((k, v) :: vs) ((k, d) :: ds)
inductive RepFs (K : Kn) (F : Hp) : List (Str × V) → List (Str × D) → Prop
  | nil : RepFs K F [] []
  | cons {k : Str} {v : V} {vs : List (Str × V)} {d : D} {ds : List (Str × D)} : Rep K F v d → RepFs K F vs ds → RepFs K F ((k, v) :: vs) ((k, d) :: ds)
end

theorem same_t {K : PySem.W.Frag} {H H' : Hp} {a : Addr} {xs : List V} (e : Same H H') (h : SqT K H a xs) : SqT K H' a xs := by
  rcases h with (h | ⟨o, h⟩) | h
  · exact .inl (.inl (e _ _ h))
  · exact .inl (.inr ⟨o, e _ _ h⟩)
  · exact .inr h
theorem same_new {H : Hp} {p : Addr} {o : HO} (h : H p = none) : Same H (upd H p o) := fun b x e => by
  rw [upd_ne (ne_of_none e h)]
  exact e

mutual
theorem Rep.mono {K : Kn} {F F' : Hp} (e : Same F F') : ∀ {v : V} {d : D}, Rep K F v d → Rep K F' v d
  | _, _, .non => .non
  | _, _, .bl b => .bl b
  | _, _, .int i => .int i
  | _, _, .str x => .str x
  | _, _, .tup h r => .tup (same_t e h) (Reps.mono e r)
  | _, _, .lst h r => .lst (e _ _ h) (Reps.mono e r)
  | _, _, .dic h r => .dic (e _ _ h) (RepKs.mono e r)
  | _, _, .obj n h r => .obj n (e _ _ h) (RepFs.mono e r)
  | _, _, .opq v => .opq v
theorem Reps.mono {K : Kn} {F F' : Hp} (e : Same F F') : ∀ {v : List V} {d : List D}, Reps K F v d → Reps K F' v d
  | _, _, .nil => .nil
  | _, _, .cons r t => .cons (Rep.mono e r) (Reps.mono e t)
theorem RepKs.mono {K : Kn} {F F' : Hp} (e : Same F F') : ∀ {v : List (Key × V)} {d : List (Key × D)}, RepKs K F v d → RepKs K F' v d
  | _, _, .nil => .nil
  | _, _, .cons r t => .cons (Rep.mono e r) (RepKs.mono e t)
theorem RepFs.mono {K : Kn} {F F' : Hp} (e : Same F F') : ∀ {v : List (Str × V)} {d : List (Str × D)}, RepFs K F v d → RepFs K F' v d
  | _, _, .nil => .nil
  | _, _, .cons r t => .cons (Rep.mono e r) (RepFs.mono e t)
end

theorem Reps.length {K : Kn} {F : Hp} : ∀ {v : List V} {d : List D}, Reps K F v d → v.length = d.length
  | _, _, .nil => rfl
  | _, _, .cons _ t => by rw [List.length_cons, List.length_cons, Reps.length t]
theorem Reps.get {K : Kn} {F : Hp} : ∀ {v : List V} {d : List D} {i : Nat} {x : D}, Reps K F v d → d[i]? = some x → ∃ u, v[i]? = some u ∧ Rep K F u x
  | _, _, _, _, .nil, e => by simp at e
  | _, _, 0, x, .cons r _, e => by simp at e; subst e; exact ⟨_, rfl, r⟩
  | _, _, i + 1, x, .cons _ t, e => by
    obtain ⟨u, h1, h2⟩ := Reps.get (i := i) (x := x) t (by simpa using e)
    exact ⟨u, by simpa using h1, h2⟩
theorem Reps.getV {K : Kn} {F : Hp} : ∀ {v : List V} {d : List D} {i : Nat} {u : V}, Reps K F v d → v[i]? = some u → ∃ x, d[i]? = some x ∧ Rep K F u x
  | _, _, _, _, .nil, e => by simp at e
  | _, _, 0, x, .cons r _, e => by simp at e; subst e; exact ⟨_, rfl, r⟩
  | _, _, i + 1, x, .cons _ t, e => by
    obtain ⟨u, h1, h2⟩ := Reps.getV (i := i) (u := x) t (by simpa using e)
    exact ⟨u, by simpa using h1, h2⟩
theorem Reps.append {K : Kn} {F : Hp} : ∀ {v v' : List V} {d d' : List D}, Reps K F v d → Reps K F v' d' → Reps K F (v ++ v') (d ++ d')
  | _, _, _, _, .nil, h => h
  | _, _, _, _, .cons r t, h => .cons r (Reps.append t h)
theorem Reps.take {K : Kn} {F : Hp} : ∀ {v : List V} {d : List D} (n : Nat), Reps K F v d → Reps K F (v.take n) (d.take n)
  | _, _, 0, _ => .nil
  | _, _, n + 1, .nil => .nil
  | _, _, n + 1, .cons r t => .cons r (Reps.take n t)
theorem Reps.drop {K : Kn} {F : Hp} : ∀ {v : List V} {d : List D} (n : Nat), Reps K F v d → Reps K F (v.drop n) (d.drop n)
  | _, _, 0, h => h
  | _, _, n + 1, .nil => .nil
  | _, _, n + 1, .cons _ t => Reps.drop n t
theorem Reps.reverse {K : Kn} {F : Hp} : ∀ {v : List V} {d : List D}, Reps K F v d → Reps K F v.reverse d.reverse
  | _, _, .nil => .nil
  | _, _, .cons r t => by
    rw [List.reverse_cons, List.reverse_cons]
    exact Reps.append (Reps.reverse t) (.cons r .nil)
theorem Reps.set {K : Kn} {F : Hp} {u : V} {x : D} (h : Rep K F u x) : ∀ {v : List V} {d : List D} (n : Nat), Reps K F v d → Reps K F (v.set n u) (d.set n x)
  | _, _, _, .nil => .nil
  | _, _, 0, .cons _ t => .cons h t
  | _, _, n + 1, .cons r t => .cons r (Reps.set h n t)
theorem Reps.of_all {K : Kn} {F : Hp} : ∀ {v : List V} {d : List D}, v.length = d.length → (∀ (i : Nat) (u : V) (x : D), v[i]? = some u → d[i]? = some x → Rep K F u x) → Reps K F v d
  | [], [], _, _ => .nil
  | u :: v, x :: d, hl, h => .cons (h 0 u x rfl rfl) (Reps.of_all (by simpa using hl) fun i u' x' e1 e2 => h (i + 1) u' x' (by simpa using e1) (by simpa using e2))
theorem reps_ints {K : Kn} {F : Hp} : ∀ ns : List Int, Reps K F (ns.map V.int) (ns.map D.int)
  | [] => .nil
  | n :: ns => .cons (.int n) (reps_ints ns)

/-! ### the deck: the one object that calls change -/
abbrev WD := Option (Addr × Addr)
/-- the deck, the tables of the code objects of lambdas -/
structure WT where
  p : WD
  T : List (Addr × Str)
def InW (W : WT) (a : Addr) : Prop := (∃ p, W.p = some p ∧ (a = p.1 ∨ a = p.2)) ∨ ∃ x, x ∈ W.T ∧ a = x.1
/-- the dict at p.1 with the keys left (the list at p.2), mixed, draws -/
def deckO (l : Addr) (m n : Int) : HO := .dK [(.inr "left", .ref l), (.inr "mixed", .int m), (.inr "draws", .int n)]
structure DeckAt (p : Addr × Addr) (F H : Hp) : Prop where
  fd : F p.1 = none
  fl : F p.2 = none
  ne : p.1 ≠ p.2
  st : ∃ (ns : List Int) (m n : Int), H p.1 = some (deckO p.2 m n) ∧ H p.2 = some (.lst (ns.map V.int)) ∧ ns.length ≤ 63 ∧ 0 ≤ m ∧ m < 2147483587
/-- no table -/
def NT (o : HO) : Prop := ∀ ps, o ≠ .tbl ps
structure DeckIn (W : WT) (F H : Hp) : Prop where
  dk : ∀ p, W.p = some p → DeckAt p F H
  tf : ∀ x, x ∈ W.T → F x.1 = none
  tb : LamX.Tabs W.T H
  nf : ∀ a o, F a = some o → NT o
  ot : ∀ a ps, H a = some (.tbl ps) → ∃ x, x ∈ W.T ∧ a = x.1
theorem DeckIn.w {W : WT} {F H : Hp} {a : Addr} (h : DeckIn W F H) (w : InW W a) : F a = none ∧ H a ≠ none := by
  rcases w with ⟨p, e0, e⟩ | ⟨x, hx, rfl⟩
  · have z := h.dk p e0
    obtain ⟨ns, m, n, h1, h2, _⟩ := z.st
    rcases e with e | e <;> subst e
    · exact ⟨z.fd, by rw [h1]; exact Option.some_ne_none _⟩
    · exact ⟨z.fl, by rw [h2]; exact Option.some_ne_none _⟩
  · obtain ⟨ps, h1, _⟩ := h.tb x hx
    exact ⟨h.tf x hx, by rw [h1]; exact Option.some_ne_none _⟩
/-- the deck stands where its objects stand -/
theorem DeckIn.keep {W : WT} {F H F' H' : Hp} (h : DeckIn W F H) (hf : ∀ a, InW W a → F' a = F a) (hh : ∀ a, InW W a → H' a = H a) (ex : ∀ a φ, H a = some (.ext φ) → H' a = some (.ext φ)) (nf : ∀ a o, F' a = some o → NT o) (ot : ∀ a ps, H' a = some (.tbl ps) → H a = some (.tbl ps)) : DeckIn W F' H' :=
  ⟨fun p e => by
    have z := h.dk p e
    have i1 : InW W p.1 := .inl ⟨p, e, .inl rfl⟩
    have i2 : InW W p.2 := .inl ⟨p, e, .inr rfl⟩
    obtain ⟨ns, m, n, h1, h2, r⟩ := z.st
    exact ⟨by rw [hf _ i1]; exact z.fd, by rw [hf _ i2]; exact z.fl, z.ne, ns, m, n, by rw [hh _ i1]; exact h1, by rw [hh _ i2]; exact h2, r⟩,
  fun x hx => by
    rw [hf _ (.inr ⟨x, hx, rfl⟩)]
    exact h.tf x hx,
  fun x hx => by
    obtain ⟨ps, h1, h2, h3⟩ := h.tb x hx
    refine ⟨ps, by rw [hh _ (.inr ⟨x, hx, rfl⟩)]; exact h1, h2, fun pos cv hc => ?_⟩
    obtain ⟨c, e1, e2⟩ := h3 pos cv hc
    exact ⟨c, e1, ex c _ e2⟩, nf, fun a ps e => h.ot a ps (ot a ps e)⟩
theorem ot_upd {H : Hp} {p : Addr} {o : HO} (n : NT o) : ∀ a ps, upd H p o a = some (.tbl ps) → H a = some (.tbl ps) := fun a ps e => by
  by_cases z : a = p
  · subst z
    rw [upd_same] at e
    cases e
    exact absurd rfl (n ps)
  · rw [upd_ne z] at e
    exact e
theorem nf_upd {F : Hp} {p : Addr} {o : HO} (h : ∀ a o, F a = some o → NT o) (n : NT o) : ∀ a u, upd F p o a = some u → NT u := fun a u e => by
  by_cases z : a = p
  · subst z
    rw [upd_same] at e
    cases e
    exact n
  · rw [upd_ne z] at e
    exact h a u e

/-! ### growth -/
structure Grow (W : WT) (F H F' H' : Hp) : Prop where
  ff : Same F F'
  fh : Same F' H'
  hh : ∀ a o, H a = some o → ¬ InW W a → NT o → H' a = some o
  new : ∀ a, F a = none → H a ≠ none → F' a = none
  keep : ∀ a, H a ≠ none → H' a ≠ none
section
variable {W : WT} {F H F1 H1 F2 H2 : Hp} {p : Addr} {o : HO}
theorem Grow.refl (h : Same F H) : Grow W F H F H := ⟨Same.refl F, h, fun _ _ e _ _ => e, fun _ e _ => e, fun _ e => e⟩
theorem Grow.trans (a : Grow W F H F1 H1) (b : Grow W F1 H1 F2 H2) : Grow W F H F2 H2 :=
  ⟨a.ff.trans b.ff, b.fh, fun x o e w n => b.hh x o (a.hh x o e w n) w n, fun x e n => b.new x (a.new x e n) (a.keep x n), fun x n => b.keep x (a.keep x n)⟩
theorem Grow.back (g : Grow W F H F1 H1) {a : Addr} (h : H1 a = none) : H a = none := by
  cases e : H a with
  | none => rfl
  | some o => exact absurd h (g.keep a (by rw [e]; exact Option.some_ne_none _))
theorem upd_keep {H : Hp} {p a : Addr} {o : HO} (h : H a ≠ none) : upd H p o a ≠ none := by
  by_cases e : a = p
  · subst e
    rw [upd_same]
    exact Option.some_ne_none _
  · rw [upd_ne e]
    exact h
/-- a new tracked object -/
theorem Grow.laid (e : Same F H) (h : H p = none) : Grow W F H F (upd H p o) :=
  ⟨Same.refl F, e.trans (same_new h), fun a u q _ _ => same_new h a u q, fun _ q _ => q, fun _ q => upd_keep q⟩
theorem same_upd2 (e : Same F H) : Same (upd F p o) (upd H p o) := fun a u q => by
  by_cases z : a = p
  · subst z
    rw [upd_same] at q ⊢
    exact q
  · rw [upd_ne z] at q ⊢
    exact e a u q
/-- a new frozen object -/
theorem Grow.frz (e : Same F H) (h : H p = none) : Grow W F H (upd F p o) (upd H p o) :=
  ⟨same_new (e.free h), same_upd2 e, fun a u q _ _ => same_new h a u q, fun a q n => by
    have z : a ≠ p := fun z => n (by rw [z]; exact h)
    rw [upd_ne z]
    exact q, fun _ q => upd_keep q⟩
/-- what is new and tracked becomes frozen -/
theorem Grow.freeze {F' H' : Hp} (g : Grow W F H F' H') (hp : H p = none) (fp : F' p = none) (h : H' p = some o) : Grow W F H (upd F' p o) H' :=
  ⟨g.ff.trans (same_new fp), fun a u q => by
    by_cases z : a = p
    · subst z
      rw [upd_same] at q
      rw [h]
      exact q
    · rw [upd_ne z] at q
      exact g.fh a u q, g.hh, fun a q n => by
    have z : a ≠ p := fun z => n (by rw [z]; exact hp)
    rw [upd_ne z]
    exact g.new a q n, g.keep⟩
theorem DeckIn.freeze {F' H' : Hp} (d0 : DeckIn W F H) (d : DeckIn W F' H') (hp : H p = none) (nt : NT o := by intro _ z; cases z) : DeckIn W (upd F' p o) H' :=
  d.keep (fun a w => upd_ne fun z => (d0.w w).2 (by rw [z]; exact hp)) (fun _ _ => rfl) (fun _ _ e => e) (nf_upd d.nf nt) fun _ _ e => e
theorem DeckIn.laid (d : DeckIn W F H) (h : H p = none) (nt : NT o := by intro _ z; cases z) : DeckIn W F (upd H p o) :=
  d.keep (fun _ _ => rfl) (fun a w => upd_ne fun z => (d.w w).2 (by rw [z]; exact h)) (fun a φ e => by rw [upd_ne (ne_of_none e h)]; exact e) d.nf (ot_upd nt)
theorem DeckIn.frz (d : DeckIn W F H) (h : H p = none) (nt : NT o := by intro _ z; cases z) : DeckIn W (upd F p o) (upd H p o) :=
  d.keep (fun a w => upd_ne fun z => (d.w w).2 (by rw [z]; exact h)) (fun a w => upd_ne fun z => (d.w w).2 (by rw [z]; exact h)) (fun a φ e => by rw [upd_ne (ne_of_none e h)]; exact e) (nf_upd d.nf nt) (ot_upd nt)
end

/-! ### the state of a body -/
/-- a slot: nothing known, data, a list or a dict of one's own -/
inductive SV where
  | no | d (x : D) | ol (xs : List D) | od (kvs : List (Key × D))
  | oo (p : Addr) (C : Str) (fs : List (Str × D))
/-- where a body began -/
structure Bs where
  W : WT
  F : Hp
  H : Hp
def SlotR (K : Kn) (F H : Hp) : SV → Option Addr → Option V → Prop
  | .no, none, _ => True
  | .d x, none, some v => Rep K F v x
  | .ol xs, some a, some v => v = .ref a ∧ ∃ vs, H a = some (.lst vs) ∧ Reps K F vs xs
  | .od ks, some a, some v => v = .ref a ∧ ∃ vs, H a = some (.dK vs) ∧ RepKs K F vs ks
  | .oo p n fs, some a, some v => a = p ∧ v = .ref a ∧ ∃ C dx vs, K.mg n = some (.ref C) ∧ H a = some (.ins C dx vs) ∧ RepFs K F vs fs
  | _, _, _ => False
structure Own (B : Bs) (F : Hp) (own : Nat → Option Addr) : Prop where
  inj : ∀ i j a, own i = some a → own j = some a → i = j
  free : ∀ i a, own i = some a → B.H a = none ∧ F a = none
structure Rel (B : Bs) (K : Kn) (σ : List SV) (s : L2.St) (F H : Hp) : Prop where
  base : Grow B.W B.F B.H F H
  bdk : DeckIn B.W B.F B.H
  deck : DeckIn B.W F H
  len : σ.length = s.length
  slots : ∃ own, Own B F own ∧ ∀ (i : Nat) x v, σ[i]? = some x → s[i]? = some v → SlotR K F H x (own i) v
section
variable {B : Bs} {K : Kn} {σ : List SV} {s : L2.St} {F H F' H' : Hp}
theorem Rel.ex (R : Rel B K σ s F H) : Same F H := R.base.fh
theorem Own.notW {own : Nat → Option Addr} (O : Own B F own) (R : DeckIn B.W B.F B.H) {i : Nat} {a : Addr} (h : own i = some a) : ¬ InW B.W a := fun w => (R.w w).2 (O.free i a h).1
theorem SlotR.mono {x : SV} {w : Option Addr} {v : Option V} (h : SlotR K F H x w v) (e : Same F F') (k : ∀ a o, w = some a → H a = some o → NT o → H' a = some o) : SlotR K F' H' x w v := by
  cases x <;> cases w <;> cases v <;> first
    | exact h
    | exact False.elim h
    | skip
  · exact Rep.mono e h
  · obtain ⟨h1, vs, h2, h3⟩ := h
    exact ⟨h1, vs, k _ _ rfl h2 (by intro _ z; cases z), Reps.mono e h3⟩
  · obtain ⟨h1, vs, h2, h3⟩ := h
    exact ⟨h1, vs, k _ _ rfl h2 (by intro _ z; cases z), RepKs.mono e h3⟩
  · obtain ⟨h0, h1, C, dx, vs, hn, h2, h3⟩ := h
    exact ⟨h0, h1, C, dx, vs, hn, k _ _ rfl h2 (by intro _ z; cases z), RepFs.mono e h3⟩
theorem SlotR.there {x : SV} {a : Addr} {v : Option V} (h : SlotR K F H x (some a) v) : H a ≠ none := by
  cases x <;> cases v <;> first
    | exact False.elim h
    | (obtain ⟨_, vs, h2, _⟩ := h; rw [h2]; exact Option.some_ne_none _)
    | (obtain ⟨_, _, C, dx, vs, _, h2, _⟩ := h; rw [h2]; exact Option.some_ne_none _)
theorem Rel.grow (R : Rel B K σ s F H) (g : Grow B.W F H F' H') (d : DeckIn B.W F' H') : Rel B K σ s F' H' := by
  obtain ⟨own, O, h⟩ := R.slots
  have key : ∀ i x, σ[i]? = some x → ∃ v, s[i]? = some v := fun i x e => by
    have h1 : i < s.length := by rw [← R.len]; exact (List.getElem?_eq_some_iff.mp e).1
    exact ⟨s[i], List.getElem?_eq_getElem h1⟩
  -- an owned address out of the slots is of no use: forget it
  refine ⟨R.base.trans g, R.bdk, d, R.len, fun i => if i < σ.length then own i else none, ⟨fun i j a e1 e2 => ?_, fun i a e => ?_⟩, fun i x v e1 e2 => ?_⟩
  · split at e1 <;> split at e2 <;> first | exact O.inj i j a e1 e2 | cases e1 | cases e2
  · split at e
    · rename_i hi
      obtain ⟨h1, h2⟩ := O.free i a e
      refine ⟨h1, g.new a h2 ?_⟩
      obtain ⟨v, ev⟩ := key i σ[i] (by simp [hi])
      have q := h i σ[i] v (by simp [hi]) ev
      rw [e] at q
      exact q.there
    · cases e
  · have hi : i < σ.length := (List.getElem?_eq_some_iff.mp e1).1
    dsimp only
    rw [if_pos hi]
    exact (h i x v e1 e2).mono g.ff fun a o e q n => g.hh a o q (O.notW R.bdk e) n
/-- a slot takes data -/
theorem Rel.set (R : Rel B K σ s F H) {i : Nat} {v : V} {x : D} (h : Rep K F v x) : Rel B K (σ.set i (.d x)) (s.set i (some v)) F H := by
  obtain ⟨own, O, q⟩ := R.slots
  refine ⟨R.base, R.bdk, R.deck, by rw [List.length_set, List.length_set]; exact R.len, fun j => if j = i then none else own j, ⟨fun a b c e1 e2 => ?_, fun a b e => ?_⟩, fun j y u e1 e2 => ?_⟩
  · split at e1 <;> split at e2 <;> first | exact O.inj a b c e1 e2 | cases e1 | cases e2
  · split at e
    · cases e
    · exact O.free a b e
  · by_cases z : j = i
    · subst z
      have h1 : j < σ.length := by
        have := (List.getElem?_eq_some_iff.mp e1).1
        rwa [List.length_set] at this
      have h2 : j < s.length := by rw [← R.len]; exact h1
      rw [List.getElem?_set_self h1] at e1
      rw [List.getElem?_set_self h2] at e2
      cases e1
      cases e2
      dsimp only
      rw [if_pos rfl]
      exact h
    · rw [List.getElem?_set_ne (Ne.symm z)] at e1 e2
      dsimp only
      rw [if_neg z]
      exact q j y u e1 e2
/-- a slot is forgotten -/
theorem Rel.drop (R : Rel B K σ s F H) {i : Nat} {v : Option V} : Rel B K (σ.set i .no) (s.set i v) F H := by
  obtain ⟨own, O, q⟩ := R.slots
  refine ⟨R.base, R.bdk, R.deck, by rw [List.length_set, List.length_set]; exact R.len, fun j => if j = i then none else own j, ⟨fun a b c e1 e2 => ?_, fun a b e => ?_⟩, fun j y u e1 e2 => ?_⟩
  · split at e1 <;> split at e2 <;> first | exact O.inj a b c e1 e2 | cases e1 | cases e2
  · split at e
    · cases e
    · exact O.free a b e
  · by_cases z : j = i
    · subst z
      have h1 : j < σ.length := by
        have := (List.getElem?_eq_some_iff.mp e1).1
        rwa [List.length_set] at this
      rw [List.getElem?_set_self h1] at e1
      cases e1
      dsimp only
      rw [if_pos rfl]
      trivial
    · rw [List.getElem?_set_ne (Ne.symm z)] at e1 e2
      dsimp only
      rw [if_neg z]
      exact q j y u e1 e2
/-- a slot takes a new object of one's own -/
theorem Rel.setNew (R : Rel B K σ s F H) {i : Nat} {p : Addr} {x : SV} (g : Grow B.W F H F' H') (dk : DeckIn B.W F' H') (hp : H p = none) (fp : F' p = none) (h : SlotR K F' H' x (some p) (some (.ref p))) : Rel B K (σ.set i x) (s.set i (some (.ref p))) F' H' := by
  have R2 := R.grow g dk
  obtain ⟨own, O, q⟩ := R.slots
  have nop : ∀ j a, j < σ.length → own j = some a → H a ≠ none := fun j a hj e => by
    have h2 : j < s.length := by rw [← R.len]; exact hj
    have w := q j σ[j] s[j] (by simp [hj]) (by simp [h2])
    rw [e] at w
    exact w.there
  have bp : B.H p = none := R.base.back hp
  refine ⟨R2.base, R.bdk, R2.deck, by rw [List.length_set, List.length_set]; exact R.len, fun j => if j = i then some p else if j < σ.length then own j else none, ⟨fun a b c e1 e2 => ?_, fun a b e => ?_⟩, fun j y u e1 e2 => ?_⟩
  · split at e1 <;> split at e2 <;> (try split at e1) <;> (try split at e2) <;> (try cases e1) <;> (try cases e2) <;> (try subst_vars) <;> first
      | rfl
      | exact absurd hp (nop _ _ (by assumption) (by assumption))
      | (exact O.inj _ _ _ (by assumption) (by assumption))
  · split at e
    · cases e
      exact ⟨bp, fp⟩
    · split at e
      · rename_i hl
        obtain ⟨h1, h2⟩ := O.free a b e
        exact ⟨h1, g.new b h2 (nop a b hl e)⟩
      · cases e
  · by_cases z : j = i
    · subst z
      have h1 : j < σ.length := by
        have := (List.getElem?_eq_some_iff.mp e1).1
        rwa [List.length_set] at this
      have h2 : j < s.length := by rw [← R.len]; exact h1
      rw [List.getElem?_set_self h1] at e1
      rw [List.getElem?_set_self h2] at e2
      cases e1
      cases e2
      dsimp only
      rw [if_pos rfl]
      exact h
    · rw [List.getElem?_set_ne (Ne.symm z)] at e1 e2
      have hj : j < σ.length := (List.getElem?_eq_some_iff.mp e1).1
      dsimp only
      rw [if_neg z, if_pos hj]
      exact (q j y u e1 e2).mono g.ff fun a o' e w n => g.hh a o' w (O.notW R.bdk e) n
/-- what a slot with an object of one's own holds -/
theorem Rel.ownL (R : Rel B K σ s F H) {i : Nat} {xs : List D} (h : σ[i]? = some (.ol xs)) : ∃ a vs, s[i]? = some (some (.ref a)) ∧ H a = some (.lst vs) ∧ Reps K F vs xs ∧ ¬ InW B.W a ∧ F a = none ∧ B.H a = none := by
  obtain ⟨own, O, q⟩ := R.slots
  have h1 : i < s.length := by rw [← R.len]; exact (List.getElem?_eq_some_iff.mp h).1
  have w := q i _ s[i] h (by simp [h1])
  cases e : own i with
  | none =>
    rw [e] at w
    exact False.elim (by cases s[i] <;> exact w)
  | some a =>
    rw [e] at w
    cases e2 : s[i] with
    | none =>
      rw [e2] at w
      exact False.elim w
    | some v =>
      rw [e2] at w
      obtain ⟨rfl, vs, h2, h3⟩ := w
      exact ⟨a, vs, by rw [List.getElem?_eq_getElem h1, e2], h2, h3, O.notW R.bdk e, (O.free i a e).2, (O.free i a e).1⟩
theorem Rel.ownD (R : Rel B K σ s F H) {i : Nat} {xs : List (Key × D)} (h : σ[i]? = some (.od xs)) : ∃ a vs, s[i]? = some (some (.ref a)) ∧ H a = some (.dK vs) ∧ RepKs K F vs xs ∧ ¬ InW B.W a ∧ F a = none ∧ B.H a = none := by
  obtain ⟨own, O, q⟩ := R.slots
  have h1 : i < s.length := by rw [← R.len]; exact (List.getElem?_eq_some_iff.mp h).1
  have w := q i _ s[i] h (by simp [h1])
  cases e : own i with
  | none =>
    rw [e] at w
    exact False.elim (by cases s[i] <;> exact w)
  | some a =>
    rw [e] at w
    cases e2 : s[i] with
    | none =>
      rw [e2] at w
      exact False.elim w
    | some v =>
      rw [e2] at w
      obtain ⟨rfl, vs, h2, h3⟩ := w
      exact ⟨a, vs, by rw [List.getElem?_eq_getElem h1, e2], h2, h3, O.notW R.bdk e, (O.free i a e).2, (O.free i a e).1⟩
theorem Rel.ownO (R : Rel B K σ s F H) {i : Nat} {a : Addr} {n : Str} {xs : List (Str × D)} (h : σ[i]? = some (.oo a n xs)) : ∃ C dx vs, s[i]? = some (some (.ref a)) ∧ K.mg n = some (.ref C) ∧ H a = some (.ins C dx vs) ∧ RepFs K F vs xs ∧ ¬ InW B.W a ∧ F a = none ∧ B.H a = none := by
  obtain ⟨own, O, q⟩ := R.slots
  have h1 : i < s.length := by rw [← R.len]; exact (List.getElem?_eq_some_iff.mp h).1
  have w := q i _ s[i] h (by simp [h1])
  cases e : own i with
  | none =>
    rw [e] at w
    exact False.elim (by cases s[i] <;> exact w)
  | some a' =>
    rw [e] at w
    cases e2 : s[i] with
    | none =>
      rw [e2] at w
      exact False.elim w
    | some v =>
      rw [e2] at w
      obtain ⟨rfl, rfl, C, dx, vs, hn, h2, h3⟩ := w
      exact ⟨C, dx, vs, by rw [List.getElem?_eq_getElem h1, e2], hn, h2, h3, O.notW R.bdk e, (O.free i _ e).2, (O.free i _ e).1⟩
theorem Rel.dat (R : Rel B K σ s F H) {i : Nat} {x : D} (h : σ[i]? = some (.d x)) : ∃ v, s[i]? = some (some v) ∧ Rep K F v x := by
  obtain ⟨own, O, q⟩ := R.slots
  have h1 : i < s.length := by rw [← R.len]; exact (List.getElem?_eq_some_iff.mp h).1
  have w := q i _ s[i] h (by simp [h1])
  cases e : own i with
  | some a =>
    rw [e] at w
    exact False.elim (by cases s[i] <;> exact w)
  | none =>
    rw [e] at w
    cases e2 : s[i] with
    | none =>
      rw [e2] at w
      exact False.elim w
    | some v =>
      rw [e2] at w
      exact ⟨v, by rw [List.getElem?_eq_getElem h1, e2], w⟩
/-- an object of one's own is written -/
theorem Rel.write (R : Rel B K σ s F H) {i : Nat} {a : Addr} {o : HO} {x y : SV} (hx : σ[i]? = some y) (hy : (∃ xs, y = .ol xs) ∨ (∃ ks, y = .od ks) ∨ ∃ p n fs, y = .oo p n fs) (hs : s[i]? = some (some (.ref a))) (h : SlotR K F (upd H a o) x (some a) (some (.ref a))) (nt : NT o := by intro _ z; cases z) : Rel B K (σ.set i x) s F (upd H a o) := by
  obtain ⟨own, O, q⟩ := R.slots
  have w := q i _ _ hx hs
  have hi : i < σ.length := (List.getElem?_eq_some_iff.mp hx).1
  have eo : own i = some a := by
    cases e : own i with
    | none =>
      rw [e] at w
      rcases hy with ⟨_, rfl⟩ | ⟨_, rfl⟩ | ⟨_, _, _, rfl⟩ <;> exact False.elim w
    | some b =>
      rw [e] at w
      rcases hy with ⟨_, rfl⟩ | ⟨_, rfl⟩ | ⟨_, _, _, rfl⟩
      · obtain ⟨e2, _⟩ := w
        cases e2
        rfl
      · obtain ⟨e2, _⟩ := w
        cases e2
        rfl
      · obtain ⟨_, e2, _⟩ := w
        cases e2
        rfl
  obtain ⟨b0, f0⟩ := O.free i a eo
  have nw := O.notW R.bdk eo
  have nx : ∀ φ, H a ≠ some (.ext φ) := fun φ z => by
    rw [eo] at w
    rcases hy with ⟨_, rfl⟩ | ⟨_, rfl⟩ | ⟨_, _, _, rfl⟩
    · obtain ⟨_, _, e2, _⟩ := w
      rw [z] at e2
      cases e2
    · obtain ⟨_, _, e2, _⟩ := w
      rw [z] at e2
      cases e2
    · obtain ⟨_, _, _, _, _, _, e2, _⟩ := w
      rw [z] at e2
      cases e2
  have nb : ∀ b u, B.H b = some u → b ≠ a := fun b u e z => by rw [z, b0] at e; cases e
  refine ⟨⟨R.base.ff, fun b u e => ?_, fun b u e n nt' => ?_, R.base.new, fun b n => upd_keep (R.base.keep b n)⟩, R.bdk, R.deck.keep (fun _ _ => rfl) (fun b z => upd_ne fun e => nw (by rw [← e]; exact z)) (fun b φ e => by rw [upd_ne (fun z => nx φ (by rw [← z]; exact e))]; exact e) R.deck.nf (ot_upd nt), by rw [List.length_set]; exact R.len, own, O, fun j y' u e1 e2 => ?_⟩
  · have z : b ≠ a := fun z => by rw [z, f0] at e; cases e
    rw [upd_ne z]
    exact R.ex b u e
  · rw [upd_ne (nb b u e)]
    exact R.base.hh b u e n nt'
  · by_cases z : j = i
    · subst z
      rw [List.getElem?_set_self hi] at e1
      cases e1
      rw [hs] at e2
      cases e2
      rw [eo]
      exact h
    · rw [List.getElem?_set_ne (Ne.symm z)] at e1
      refine (q j y' u e1 e2).mono (Same.refl F) fun c o' e k _ => ?_
      have nc : c ≠ a := fun z' => z (O.inj j i c e (by rw [z']; exact eo))
      rw [upd_ne nc]
      exact k
/-- an object of one's own becomes data -/
theorem Rel.freeze (R : Rel B K σ s F H) {i : Nat} {a : Addr} {o : HO} {y : SV} {x : D} (hx : σ[i]? = some y) (hs : s[i]? = some (some (.ref a))) (ha : H a = some o) (hf : F a = none) (hb : B.H a = none) (hw : ¬ InW B.W a) (hy : (∃ xs, y = .ol xs) ∨ (∃ ks, y = .od ks) ∨ ∃ p n fs, y = .oo p n fs)
    (h : Rep K (upd F a o) (.ref a) x) (nt : NT o := by intro _ z; cases z) : Rel B K (σ.set i (.d x)) s (upd F a o) H := by
  obtain ⟨own, O, q⟩ := R.slots
  have hi : i < σ.length := (List.getElem?_eq_some_iff.mp hx).1
  have w := q i _ _ hx hs
  have eo : own i = some a := by
    cases e : own i with
    | none =>
      rw [e] at w
      rcases hy with ⟨_, rfl⟩ | ⟨_, rfl⟩ | ⟨_, _, _, rfl⟩ <;> exact False.elim w
    | some b =>
      rw [e] at w
      rcases hy with ⟨_, rfl⟩ | ⟨_, rfl⟩ | ⟨_, _, _, rfl⟩
      · obtain ⟨e2, _⟩ := w
        cases e2
        rfl
      · obtain ⟨e2, _⟩ := w
        cases e2
        rfl
      · obtain ⟨_, e2, _⟩ := w
        cases e2
        rfl
  have sm : Same F (upd F a o) := same_new hf
  refine ⟨⟨R.base.ff.trans sm, fun b u e => ?_, R.base.hh, fun b e n => ?_, R.base.keep⟩, R.bdk, R.deck.keep (fun b z => upd_ne fun e => hw (by rw [← e]; exact z)) (fun _ _ => rfl) (fun _ _ e => e) (nf_upd R.deck.nf nt) fun _ _ e => e, by rw [List.length_set]; exact R.len,
    fun j => if j = i then none else own j, ⟨fun b c d e1 e2 => ?_, fun b c e => ?_⟩, fun j y' u e1 e2 => ?_⟩
  · by_cases z : b = a
    · subst z
      rw [upd_same] at e
      rw [ha]
      exact e
    · rw [upd_ne z] at e
      exact R.ex b u e
  · have z : b ≠ a := fun z => n (by rw [z]; exact hb)
    rw [upd_ne z]
    exact R.base.new b e n
  · split at e1 <;> split at e2 <;> first | exact O.inj b c d e1 e2 | cases e1 | cases e2
  · split at e
    · cases e
    · rename_i nz
      obtain ⟨h1, h2⟩ := O.free b c e
      refine ⟨h1, ?_⟩
      have z : c ≠ a := fun z => nz (O.inj b i c e (by rw [z]; exact eo))
      rw [upd_ne z]
      exact h2
  · by_cases z : j = i
    · subst z
      rw [List.getElem?_set_self hi] at e1
      cases e1
      rw [hs] at e2
      cases e2
      dsimp only
      rw [if_pos rfl]
      exact h
    · rw [List.getElem?_set_ne (Ne.symm z)] at e1
      dsimp only
      rw [if_neg z]
      exact (q j y' u e1 e2).mono sm fun _ _ _ k _ => k
end
end ND

/-! ND2: expressions -/
namespace ND
open PySem PySem.Spec L2

/-! ### judgements -/
abbrev _root_.L2.Cx.kn (X : Cx) : Kn := ⟨X.K, X.mg⟩
abbrev GE := List SV → (D → Prop) → Prop
abbrev GT := List SV → (Bool → Prop) → Prop
abbrev GA := List SV → (List D → Prop) → Prop
/-- what is borrowed: data, or an object of one's own as it stands -/
def RepB (W : WT) (K : Kn) (F H : Hp) (v : V) (d : D) : Prop :=
  Rep K F v d ∨ (∃ a ds vs, v = .ref a ∧ d = .lst ds ∧ ¬ InW W a ∧ H a = some (.lst vs) ∧ Reps K F vs ds) ∨ ∃ a ds vs, v = .ref a ∧ d = .dic ds ∧ ¬ InW W a ∧ H a = some (.dK vs) ∧ RepKs K F vs ds
theorem RepB.grow {W : WT} {K : Kn} {F H F' H' : Hp} {v : V} {d : D} (h : RepB W K F H v d) (g : Grow W F H F' H') : RepB W K F' H' v d := by
  rcases h with h | ⟨a, ds, vs, e1, e2, n, e3, r⟩ | ⟨a, ds, vs, e1, e2, n, e3, r⟩
  · exact .inl (h.mono g.ff)
  · exact .inr (.inl ⟨a, ds, vs, e1, e2, n, g.hh _ _ e3 n (by intro _ z; cases z), r.mono g.ff⟩)
  · exact .inr (.inr ⟨a, ds, vs, e1, e2, n, g.hh _ _ e3 n (by intro _ z; cases z), r.mono g.ff⟩)
theorem RepB.lst {W : WT} {K : Kn} {F H : Hp} {v : V} {ds : List D} (h : RepB W K F H v (.lst ds)) (e : Same F H) : ∃ a vs, v = .ref a ∧ H a = some (.lst vs) ∧ Reps K F vs ds := by
  rcases h with h | ⟨a, ds', vs, e1, e2, n, e3, r⟩ | ⟨a, ds', vs, e1, e2, n, e3, r⟩
  · cases h with
    | lst h r => exact ⟨_, _, rfl, e _ _ h, r⟩
  · cases e2
    exact ⟨a, vs, e1, e3, r⟩
  · cases e2
theorem RepB.dic {W : WT} {K : Kn} {F H : Hp} {v : V} {ds : List (Key × D)} (h : RepB W K F H v (.dic ds)) (e : Same F H) : ∃ a vs, v = .ref a ∧ H a = some (.dK vs) ∧ RepKs K F vs ds := by
  rcases h with h | ⟨a, ds', vs, e1, e2, n, e3, r⟩ | ⟨a, ds', vs, e1, e2, n, e3, r⟩
  · cases h with
    | dic h r => exact ⟨_, _, rfl, e _ _ h, r⟩
  · cases e2
  · cases e2
    exact ⟨a, vs, e1, e3, r⟩
theorem RepB.tup {W : WT} {K : Kn} {F H : Hp} {v : V} {ds : List D} (h : RepB W K F H v (.tup ds)) (e : Same F H) : ∃ a vs, v = .ref a ∧ SqT K.K F a vs ∧ SqT K.K H a vs ∧ Reps K F vs ds := by
  rcases h with h | ⟨a, ds', vs, e1, e2, n, e3, r⟩ | ⟨a, ds', vs, e1, e2, n, e3, r⟩
  · cases h with
    | tup h r => exact ⟨_, _, rfl, h, same_t e h, r⟩
  · cases e2
  · cases e2
theorem RepB.int {W : WT} {K : Kn} {F H : Hp} {v : V} {i : Int} (h : RepB W K F H v (.int i)) : v = .int i := by
  rcases h with h | ⟨a, ds', vs, e1, e2, n, e3, r⟩ | ⟨a, ds', vs, e1, e2, n, e3, r⟩
  · cases h
    rfl
  · cases e2
  · cases e2
theorem RepB.bl {W : WT} {K : Kn} {F H : Hp} {v : V} {i : Bool} (h : RepB W K F H v (.bl i)) : v = .bl i := by
  rcases h with h | ⟨a, ds', vs, e1, e2, n, e3, r⟩ | ⟨a, ds', vs, e1, e2, n, e3, r⟩
  · cases h
    rfl
  · cases e2
  · cases e2
theorem RepB.str {W : WT} {K : Kn} {F H : Hp} {v : V} {i : Str} (h : RepB W K F H v (.str i)) : v = .str i := by
  rcases h with h | ⟨a, ds', vs, e1, e2, n, e3, r⟩ | ⟨a, ds', vs, e1, e2, n, e3, r⟩
  · cases h
    rfl
  · cases e2
  · cases e2
theorem RepB.non {W : WT} {K : Kn} {F H : Hp} {v : V} (h : RepB W K F H v .non) : v = .non := by
  rcases h with h | ⟨a, ds', vs, e1, e2, n, e3, r⟩ | ⟨a, ds', vs, e1, e2, n, e3, r⟩
  · cases h
    rfl
  · cases e2
  · cases e2
theorem RepB.opq {W : WT} {K : Kn} {F H : Hp} {v u : V} (h : RepB W K F H v (.opq u)) : v = u := by
  rcases h with h | ⟨a, ds', vs, e1, e2, n, e3, r⟩ | ⟨a, ds', vs, e1, e2, n, e3, r⟩
  · cases h
    rfl
  · cases e2
  · cases e2
theorem RepB.obj {W : WT} {K : Kn} {F H : Hp} {v : V} {n : Str} {ds : List (Str × D)} (h : RepB W K F H v (.obj n ds)) (e : Same F H) : ∃ a C dx fs, K.mg n = some (.ref C) ∧ v = .ref a ∧ H a = some (.ins C dx fs) ∧ RepFs K F fs ds := by
  rcases h with h | ⟨a, ds', vs, e1, e2, n, e3, r⟩ | ⟨a, ds', vs, e1, e2, n, e3, r⟩
  · cases h with
    | obj n h r => exact ⟨_, _, _, _, n, rfl, e _ _ h, r⟩
  · cases e2
  · cases e2

/-- the data Qd are wanted: so is Q of each value that is one of them -/
def Fin (B : Bs) (K : Kn) (F H : Hp) (Qd : D → Prop) (Q : VK) : Prop := ∀ d, Qd d → ∀ F' H' v, Grow B.W F H F' H' → DeckIn B.W F' H' → Rep K F' v d → Q v H'
def FinB (B : Bs) (K : Kn) (F H : Hp) (Qd : D → Prop) (Q : VK) : Prop := ∀ d, Qd d → ∀ F' H' v, Grow B.W F H F' H' → DeckIn B.W F' H' → RepB B.W K F' H' v d → Q v H'
def FinT (B : Bs) (F H : Hp) (Qd : Bool → Prop) (Q : Bool → Hp → Prop) : Prop := ∀ b, Qd b → ∀ F' H', Grow B.W F H F' H' → DeckIn B.W F' H' → Q b H'
def FinA (B : Bs) (K : Kn) (F H : Hp) (Qd : List D → Prop) (Q : List V → Hp → Prop) : Prop := ∀ ds, Qd ds → ∀ F' H' vs, Grow B.W F H F' H' → DeckIn B.W F' H' → Reps K F' vs ds → Q vs H'
inductive RepBs (W : WT) (K : Kn) (F H : Hp) : List V → List D → Prop
  | nil : RepBs W K F H [] []
  | cons {v : V} {vs : List V} {d : D} {ds : List D} : RepB W K F H v d → RepBs W K F H vs ds → RepBs W K F H (v :: vs) (d :: ds)
def FinAB (B : Bs) (K : Kn) (F H : Hp) (Qd : List D → Prop) (Q : List V → Hp → Prop) : Prop := ∀ ds, Qd ds → ∀ F' H' vs, Grow B.W F H F' H' → DeckIn B.W F' H' → RepBs B.W K F' H' vs ds → Q vs H'
/-- a new list, not frozen yet -/
def FinF (B : Bs) (K : Kn) (F H : Hp) (Qd : List D → Prop) (Q : VK) : Prop := ∀ ds, Qd ds → ∀ F' H' p vs, Grow B.W F H F' H' → DeckIn B.W F' H' → H p = none → F' p = none → H' p = some (.lst vs) → Reps K F' vs ds → Q (.ref p) H'

def LE (B : Bs) (K : Kn) (f : GE) : TE := fun s H Q => ∃ σ F Qd, Rel B K σ s F H ∧ f σ Qd ∧ Fin B K F H Qd Q
def LB (B : Bs) (K : Kn) (f : GE) : TE := fun s H Q => ∃ σ F Qd, Rel B K σ s F H ∧ f σ Qd ∧ FinB B K F H Qd Q
def LF (B : Bs) (K : Kn) (f : GA) : TE := fun s H Q => ∃ σ F Qd, Rel B K σ s F H ∧ f σ Qd ∧ FinF B K F H Qd Q
def LT (B : Bs) (K : Kn) (f : GT) : TT := fun s H Q => ∃ σ F Qd, Rel B K σ s F H ∧ f σ Qd ∧ FinT B F H Qd Q
def LA (B : Bs) (K : Kn) (f : GA) : TA := fun s H Q => ∃ σ F Qd, Rel B K σ s F H ∧ f σ Qd ∧ FinA B K F H Qd Q
def LAB (B : Bs) (K : Kn) (f : GA) : TA := fun s H Q => ∃ σ F Qd, Rel B K σ s F H ∧ f σ Qd ∧ FinAB B K F H Qd Q
/-- an expression gives data | may be borrowed | gives a new list | a test | arguments -/
structure ED (B : Bs) (X : Cx) (e : Expr) (f : GE) : Prop where
  run : PE X e (LE B X.kn f)
structure BD (B : Bs) (X : Cx) (e : Expr) (f : GE) : Prop where
  run : PE X e (LB B X.kn f)
structure FD (B : Bs) (X : Cx) (e : Expr) (f : GA) : Prop where
  run : PE X e (LF B X.kn f)
structure TD (B : Bs) (X : Cx) (e : Expr) (f : GT) : Prop where
  run : PT X e (LT B X.kn f)
structure WDd (B : Bs) (X : Cx) (e : Expr) (f : GT) : Prop where
  run : PW X e (LT B X.kn f)
structure AD (B : Bs) (X : Cx) (es : List Expr) (f : GA) : Prop where
  run : PA X es (LA B X.kn f)
structure ABD (B : Bs) (X : Cx) (es : List Expr) (f : GA) : Prop where
  run : PA X es (LAB B X.kn f)

theorem pe_imp {X : Cx} {e : Expr} {t t' : TE} (h : PE X e t) (w : ∀ s H Q, t' s H Q → t s H Q) : PE X e t' := ⟨fun pins s σ H Q I q => h.run pins s σ H Q I (w _ _ _ q)⟩
theorem pt_imp {X : Cx} {e : Expr} {t t' : TT} (h : PT X e t) (w : ∀ s H Q, t' s H Q → t s H Q) : PT X e t' := ⟨fun pins s σ H Q I q => h.run pins s σ H Q I (w _ _ _ q)⟩
theorem pw_imp {X : Cx} {e : Expr} {t t' : TT} (h : PW X e t) (w : ∀ s H Q, t' s H Q → t s H Q) : PW X e t' := ⟨fun wh pins s σ H Q I q => h.run wh pins s σ H Q I (w _ _ _ q)⟩
theorem pa_imp {X : Cx} {e : List Expr} {t t' : TA} (h : PA X e t) (w : ∀ s H Q, t' s H Q → t s H Q) : PA X e t' := ⟨fun pos pins s σ H Q I q => h.run pos pins s σ H Q I (w _ _ _ q)⟩

section
variable {B : Bs} {X : Cx} {e a b c : Expr} {es : List Expr} {f fa fb fc : GE} {pos : Pos}
theorem Fin.more {K : Kn} {F H F' H' : Hp} {Qd : D → Prop} {Q : VK} (h : Fin B K F H Qd Q) (g : Grow B.W F H F' H') : Fin B K F' H' Qd Q := fun d q F2 H2 v g2 dk r => h d q F2 H2 v (g.trans g2) dk r
theorem FinB.more {K : Kn} {F H F' H' : Hp} {Qd : D → Prop} {Q : VK} (h : FinB B K F H Qd Q) (g : Grow B.W F H F' H') : FinB B K F' H' Qd Q := fun d q F2 H2 v g2 dk r => h d q F2 H2 v (g.trans g2) dk r
theorem FinT.more {F H F' H' : Hp} {Qd : Bool → Prop} {Q : Bool → Hp → Prop} (h : FinT B F H Qd Q) (g : Grow B.W F H F' H') : FinT B F' H' Qd Q := fun d q F2 H2 g2 dk => h d q F2 H2 (g.trans g2) dk
theorem FinA.more {K : Kn} {F H F' H' : Hp} {Qd : List D → Prop} {Q : List V → Hp → Prop} (h : FinA B K F H Qd Q) (g : Grow B.W F H F' H') : FinA B K F' H' Qd Q := fun d q F2 H2 v g2 dk r => h d q F2 H2 v (g.trans g2) dk r
theorem FinAB.more {K : Kn} {F H F' H' : Hp} {Qd : List D → Prop} {Q : List V → Hp → Prop} (h : FinAB B K F H Qd Q) (g : Grow B.W F H F' H') : FinAB B K F' H' Qd Q := fun d q F2 H2 v g2 dk r => h d q F2 H2 v (g.trans g2) dk r
theorem FinF.more {K : Kn} {F H F' H' : Hp} {Qd : List D → Prop} {Q : VK} (h : FinF B K F H Qd Q) (g : Grow B.W F H F' H') : FinF B K F' H' Qd Q := fun d q F2 H2 p vs g2 dk hp fp e r => h d q F2 H2 p vs (g.trans g2) dk (g.back hp) fp e r
/-- a list just laid -/
theorem FinF.laid {K : Kn} {F H : Hp} {Qd : List D → Prop} {Q : VK} (h : FinF B K F H Qd Q) (e : Same F H) (dk : DeckIn B.W F H) {ds : List D} {p : Addr} {vs : List V} (q : Qd ds) (hp : H p = none) (r : Reps K F vs ds) : Q (.ref p) (upd H p (.lst vs)) :=
  h ds q F _ p vs (Grow.laid e hp) (dk.laid hp) hp (e.free hp) upd_same r

theorem ED.toB (h : ED B X e f) : BD B X e f := ⟨pe_imp h.run fun s H Q ⟨σ, F, Qd, R, q, k⟩ => ⟨σ, F, Qd, R, q, fun d qd F' H' v g dk r => k d qd F' H' v g dk (.inl r)⟩⟩
/-- a new list becomes data -/
@[simp] def gFrz (f : GA) (σ : List SV) (Q : D → Prop) : Prop := f σ fun ds => Q (.lst ds)
theorem fin_frz {K : Kn} {F H : Hp} {Qd : D → Prop} {Q : VK} (d0 : DeckIn B.W F H) (k : Fin B K F H Qd Q) : FinF B K F H (fun ds => Qd (.lst ds)) Q := fun ds qd F' H' p vs g dk hp fp e r =>
  k _ qd _ _ _ (g.freeze hp fp e) (d0.freeze dk hp) (.lst upd_same (r.mono (same_new fp)))
theorem FD.toE {f : GA} (h : FD B X e f) : ED B X e (gFrz f) := ⟨pe_imp h.run fun s H Q ⟨σ, F, Qd, R, q, k⟩ => ⟨σ, F, fun ds => Qd (.lst ds), R, q, fin_frz R.deck k⟩⟩
theorem FD.toB {f : GA} (h : FD B X e f) : BD B X e (gFrz f) := h.toE.toB

/-! ### names, constants -/
@[simp] def gVar (i : Nat) (σ : List SV) (Q : D → Prop) : Prop := match σ[i]? with | some (.d x) => Q x | _ => False
@[simp] def gVarB (i : Nat) (σ : List SV) (Q : D → Prop) : Prop := match σ[i]? with | some (.d x) => Q x | some (.ol xs) => Q (.lst xs) | some (.od ks) => Q (.dic ks) | _ => False
@[simp] def gC (d : D) (_ : List SV) (Q : D → Prop) : Prop := Q d
theorem ed_var (i : Nat) {x : Str} (h : PE X (.Name x pos) (tVar i)) : ED B X (.Name x pos) (gVar i) := ⟨pe_imp h fun s H Q ⟨σ, F, Qd, R, q, k⟩ => by
  unfold gVar at q
  split at q
  · rename_i x e
    obtain ⟨v, h1, h2⟩ := R.dat e
    exact ⟨v, h1, k _ q F H v (Grow.refl R.ex) R.deck h2⟩
  · exact q.elim⟩
theorem bd_var (i : Nat) {x : Str} (h : PE X (.Name x pos) (tVar i)) : BD B X (.Name x pos) (gVarB i) := ⟨pe_imp h fun s H Q ⟨σ, F, Qd, R, q, k⟩ => by
  unfold gVarB at q
  split at q
  · rename_i x e
    obtain ⟨v, h1, h2⟩ := R.dat e
    exact ⟨v, h1, k _ q F H v (Grow.refl R.ex) R.deck (.inl h2)⟩
  · rename_i xs e
    obtain ⟨a, vs, h1, h2, h3, h4, _⟩ := R.ownL e
    exact ⟨.ref a, h1, k _ q F H _ (Grow.refl R.ex) R.deck (.inr (.inl ⟨a, xs, vs, rfl, rfl, h4, h2, h3⟩))⟩
  · rename_i xs e
    obtain ⟨a, vs, h1, h2, h3, h4, _⟩ := R.ownD e
    exact ⟨.ref a, h1, k _ q F H _ (Grow.refl R.ex) R.deck (.inr (.inr ⟨a, xs, vs, rfl, rfl, h4, h2, h3⟩))⟩
  · exact q.elim⟩
/-- a value that is known -/
theorem ed_c {v : V} {d : D} (h : PE X e (tC v)) (r : ∀ F, Rep X.kn F v d) : ED B X e (gC d) := ⟨pe_imp h fun s H Q ⟨σ, F, Qd, R, q, k⟩ => k d q F H v (Grow.refl R.ex) R.deck (r F)⟩
theorem ed_int {i : Int} {j : Nat} : ED B X (.Constant (.int i) j pos) (gC (.int i)) := ed_c pe_int fun _ => .int i
theorem ed_bl {i : Bool} {j : Nat} : ED B X (.Constant (.bool i) j pos) (gC (.bl i)) := ed_c pe_bl fun _ => .bl i
theorem ed_non {j : Nat} : ED B X (.Constant .none j pos) (gC .non) := ed_c pe_non fun _ => .non
theorem ed_str {x : Str} {j : Nat} : ED B X (.Constant (.str x) j pos) (gC (.str x)) := ed_c pe_str fun _ => .str x

/-! ### two in a row -/
theorem lb_two {K : Kn} {s : L2.St} {σ : List SV} {F H : Hp} {R2 : V → V → Hp → Prop} {Qd : D → D → Prop} (R : Rel B K σ s F H) (q : fa σ fun x => fb σ fun y => Qd x y)
    (k : ∀ x y F' H' v u, Qd x y → Grow B.W F H F' H' → DeckIn B.W F' H' → RepB B.W K F' H' v x → RepB B.W K F' H' u y → R2 v u H') : LB B K fa s H fun v H1 => LB B K fb s H1 fun u H2 => R2 v u H2 :=
  ⟨σ, F, _, R, q, fun x qx F1 H1 v g1 d1 r1 => ⟨σ, F1, _, R.grow g1 d1, qx, fun y qy F2 H2 u g2 d2 r2 => k x y F2 H2 v u qy (g1.trans g2) d2 (r1.grow g2) r2⟩⟩
/-- an operation on values, by data -/
def LO2 (B : Bs) (K : Kn) (g : D → D → (D → Prop) → Prop) : R2 := fun v u H Q => ∃ F x y Qd, Same F H ∧ DeckIn B.W F H ∧ RepB B.W K F H v x ∧ RepB B.W K F H u y ∧ g x y Qd ∧ Fin B K F H Qd Q
def LO1 (B : Bs) (K : Kn) (g : D → (D → Prop) → Prop) : V → Hp → VK → Prop := fun v H Q => ∃ F x Qd, Same F H ∧ DeckIn B.W F H ∧ RepB B.W K F H v x ∧ g x Qd ∧ Fin B K F H Qd Q
@[simp] def gBin (g : D → D → (D → Prop) → Prop) (fa fb : GE) (σ : List SV) (Q : D → Prop) : Prop := fa σ fun x => fb σ fun y => g x y Q
@[simp] def gUn (g : D → (D → Prop) → Prop) (fa : GE) (σ : List SV) (Q : D → Prop) : Prop := fa σ fun x => g x Q
variable {g : D → D → (D → Prop) → Prop}
theorem lo2_of {K : Kn} {s : L2.St} {σ : List SV} {F H : Hp} {Qd : D → Prop} {Q : VK} (R : Rel B K σ s F H) (q : gBin g fa fb σ Qd) (k : Fin B K F H Qd Q) : tOp (LO2 B K g) (LB B K fa) (LB B K fb) s H Q :=
  lb_two (Qd := fun x y => g x y Qd) R q fun x y F' H' v u q g' d r1 r2 => ⟨F', x, y, Qd, g'.fh, d, r1, r2, q, k.more g'⟩
theorem ed_bin {op : Operator} (ho : OpR X (binaryOp op) (LO2 B X.kn g)) (ha : BD B X a fa) (hb : BD B X b fb) : ED B X (.BinOp a op b pos) (gBin g fa fb) :=
  ⟨pe_imp (pe_op ho ha.run hb.run) fun s H Q ⟨σ, F, Qd, R, q, k⟩ => lo2_of R q k⟩
theorem ed_un {op : UnaryOp} {g : D → (D → Prop) → Prop} (ho : UnR X (unaryOp op) (LO1 B X.kn g)) (ha : BD B X a fa) : ED B X (.UnaryOp op a pos) (gUn g fa) :=
  ⟨pe_imp (pe_un ho ha.run) fun s H Q ⟨σ, F, Qd, R, q, k⟩ => ⟨σ, F, _, R, q, fun x qx F1 H1 v g1 d1 r1 => ⟨F1, x, Qd, g1.fh, d1, r1, qx, k.more g1⟩⟩⟩
theorem opR_imp {f : Value → Value → Sem Value} {r r' : R2} (h : OpR X f r) (w : ∀ v u H Q, r' v u H Q → r v u H Q) : OpR X f r' := fun pins s σ H x y v u Q I rx ry q => h pins s σ H x y v u Q I rx ry (w _ _ _ _ q)
theorem opR_by {f : Value → Value → Sem Value} {r' : R2} (w : ∀ v u H Q, r' v u H Q → ∃ r, OpR X f r ∧ r v u H Q) : OpR X f r' := fun pins s σ H x y v u Q I rx ry q => by
  obtain ⟨r, h, q'⟩ := w _ _ _ _ q
  exact h pins s σ H x y v u Q I rx ry q'
theorem unR_by {f : Value → Sem Value} {r' : V → Hp → VK → Prop} (w : ∀ v H Q, r' v H Q → ∃ r, UnR X f r ∧ r v H Q) : UnR X f r' := fun pins s σ H x v Q I rx q => by
  obtain ⟨r, h, q'⟩ := w _ _ _ q
  exact h pins s σ H x v Q I rx q'
theorem Fin.here {K : Kn} {F H : Hp} {Qd : D → Prop} {Q : VK} (k : Fin B K F H Qd Q) (e : Same F H) (dk : DeckIn B.W F H) {d : D} {v : V} (q : Qd d) (r : Rep K F v d) : Q v H := k d q F H v (Grow.refl e) dk r
theorem Fin.frz {K : Kn} {F H : Hp} {Qd : D → Prop} {Q : VK} (k : Fin B K F H Qd Q) (e : Same F H) (dk : DeckIn B.W F H) {d : D} {p : Addr} {o : HO} (q : Qd d) (hp : H p = none) (r : Rep K (upd F p o) (.ref p) d) (nt : NT o := by intro _ z; cases z) : Q (.ref p) (upd H p o) :=
  k d q _ _ _ (Grow.frz e hp) (dk.frz hp nt) r

/-! ### arithmetic -/
/-- integers that may be multiplied -/
def MulOk (i j : Int) : Prop := i.natAbs.log2 + j.natAbs.log2 < 1000000
def DivOk (j : Int) : Prop := j ≠ 0 ∧ j.natAbs.log2 < 9000
def addD : D → D → (D → Prop) → Prop
  | .int i, .int j, Q => Q (.int (i + j))
  | .str i, .str j, Q => i.length + j.length ≤ sizeLine ∧ Q (.str (i ++ j))
  | .tup xs, .tup ys, Q => xs.length + ys.length ≤ sizeLine ∧ Q (.tup (xs ++ ys))
  | .lst xs, .lst ys, Q => xs.length + ys.length ≤ sizeLine ∧ Q (.lst (xs ++ ys))
  | _, _, _ => False
def subD : D → D → (D → Prop) → Prop
  | .int i, .int j, Q => Q (.int (i - j))
  | _, _, _ => False
def mulD : D → D → (D → Prop) → Prop
  | .int i, .int j, Q => MulOk i j ∧ Q (.int (i * j))
  | .lst xs, .int k, Q => 0 ≤ k ∧ k < 2 ^ 63 ∧ xs.length * k.toNat ≤ sizeLine ∧ Q (.lst (List.replicate k.toNat xs).flatten)
  | _, _, _ => False
/-- floors: by a positive divisor as Lean's / and % -/
def fdivD : D → D → (D → Prop) → Prop
  | .int i, .int j, Q => 0 < j ∧ j.natAbs.log2 < 9000 ∧ Q (.int (i / j))
  | _, _, _ => False
def modD : D → D → (D → Prop) → Prop
  | .int i, .int j, Q => 0 < j ∧ Q (.int (i % j))
  | _, _, _ => False
def powD : D → D → (D → Prop) → Prop
  | .int i, .int j, Q => 0 ≤ j ∧ j ≤ 1000000 ∧ i.natAbs < 2 ^ 64 ∧ Q (.int (i ^ j.toNat))
  | _, _, _ => False
def shlD : D → D → (D → Prop) → Prop
  | .int i, .int j, Q => 0 ≤ j ∧ j ≤ 1000000 ∧ i.natAbs < 2 ^ 64 ∧ Q (.int (i * 2 ^ j.toNat))
  | _, _, _ => False
def andD : D → D → (D → Prop) → Prop
  | .int i, .int j, Q => Q (.int (Builtin.bitAnd i j))
  | _, _, _ => False
def xorD : D → D → (D → Prop) → Prop
  | .int i, .int j, Q => Q (.int (Builtin.bitXor i j))
  | _, _, _ => False
def negD : D → (D → Prop) → Prop
  | .int i, Q => Q (.int (-i))
  | _, _ => False
theorem o_add : OpR X (binaryOp .Add) (LO2 B X.kn addD) := opR_by fun v u H Q ⟨F, x, y, Qd, e, dk, r1, r2, q, k⟩ => by
  unfold addD at q
  split at q
  · exact ⟨_, op_add, _, _, r1.int, r2.int, k.here e dk q (.int _)⟩
  · exact ⟨_, op_add_str, _, _, r1.str, r2.str, q.1, k.here e dk q.2 (.str _)⟩
  · obtain ⟨a, vs, rfl, f1, h1, s1⟩ := r1.tup e
    obtain ⟨b, us, rfl, f2, h2, s2⟩ := r2.tup e
    refine ⟨_, op_catA, a, b, vs, us, rfl, rfl, h1, h2, by rw [s1.length, s2.length]; exact q.1, ?_⟩
    have z := s1.append s2
    refine ⟨fun w => ?_, fun w1 w => ?_, fun w1 w2 p hp => ?_⟩
    · subst w
      cases s1
      exact k.here e dk q.2 (.tup f2 (by simpa using s2))
    · subst w
      cases s2
      exact k.here e dk q.2 (.tup f1 (by simpa using s1))
    · exact k.frz e dk q.2 hp (.tup (SqT.of upd_same) (z.mono (same_new (e.free hp))))
  · obtain ⟨a, vs, rfl, h1, s1⟩ := r1.lst e
    obtain ⟨b, us, rfl, h2, s2⟩ := r2.lst e
    exact ⟨_, op_cat, a, b, vs, us, rfl, rfl, h1, h2, by rw [s1.length, s2.length]; exact q.1, fun p hp => k.frz e dk q.2 hp (.lst upd_same ((s1.append s2).mono (same_new (e.free hp))))⟩
  · exact q.elim
end
end ND

/-! ND3: operators, comparisons, truth, displays, items, slices -/
namespace ND
open PySem PySem.Spec L2
section
variable {B : Bs} {X : Cx} {e a b c : Expr} {es : List Expr} {f fa fb fc : GE} {pos : Pos}
theorem o_sub : OpR X (binaryOp .Sub) (LO2 B X.kn subD) := opR_by fun v u H Q ⟨F, x, y, Qd, e, dk, r1, r2, q, k⟩ => by
  unfold subD at q
  split at q
  · exact ⟨_, op_sub, _, _, r1.int, r2.int, k.here e dk q (.int _)⟩
  · exact q.elim
theorem Reps.rep {K : Kn} {F : Hp} {vs : List V} {ds : List D} (h : Reps K F vs ds) : ∀ n : Nat, Reps K F (List.replicate n vs).flatten (List.replicate n ds).flatten
  | 0 => .nil
  | n + 1 => by
    rw [List.replicate_succ, List.replicate_succ, List.flatten_cons, List.flatten_cons]
    exact h.append (Reps.rep h n)
theorem o_mul : OpR X (binaryOp .Mult) (LO2 B X.kn mulD) := opR_by fun v u H Q ⟨F, x, y, Qd, e, dk, r1, r2, q, k⟩ => by
  unfold mulD at q
  split at q
  · exact ⟨_, op_mulW, _, _, r1.int, r2.int, q.1, k.here e dk q.2 (.int _)⟩
  · obtain ⟨a, vs, rfl, h1, s1⟩ := r1.lst e
    obtain ⟨q0, q1, q2, q3⟩ := q
    have := s1.length
    exact ⟨_, op_rep, a, _, vs, rfl, r2.int, h1, by omega, q1, by rw [this]; exact q2, fun p hp => k.frz e dk q3 hp (.lst upd_same ((s1.rep _).mono (same_new (e.free hp))))⟩
  · exact q.elim
theorem o_fdiv : OpR X (binaryOp .FloorDiv) (LO2 B X.kn fdivD) := opR_by fun v u H Q ⟨F, x, y, Qd, e, dk, r1, r2, q, k⟩ => by
  unfold fdivD at q
  split at q
  · exact ⟨_, op_fdivW, _, _, r1.int, r2.int, ⟨q.1, q.2.1⟩, k.here e dk q.2.2 (.int _)⟩
  · exact q.elim
theorem o_mod : OpR X (binaryOp .Mod) (LO2 B X.kn modD) := opR_by fun v u H Q ⟨F, x, y, Qd, e, dk, r1, r2, q, k⟩ => by
  unfold modD at q
  split at q
  · exact ⟨_, op_mod, _, _, r1.int, r2.int, q.1, k.here e dk q.2 (.int _)⟩
  · exact q.elim
theorem o_pow : OpR X (binaryOp .Pow) (LO2 B X.kn powD) := opR_by fun v u H Q ⟨F, x, y, Qd, e, dk, r1, r2, q, k⟩ => by
  unfold powD at q
  split at q
  · exact ⟨_, op_pow, _, _, r1.int, r2.int, ⟨q.1, q.2.1, q.2.2.1⟩, k.here e dk q.2.2.2 (.int _)⟩
  · exact q.elim
theorem o_shl : OpR X (binaryOp .LShift) (LO2 B X.kn shlD) := opR_by fun v u H Q ⟨F, x, y, Qd, e, dk, r1, r2, q, k⟩ => by
  unfold shlD at q
  split at q
  · exact ⟨_, op_shl, _, _, r1.int, r2.int, ⟨q.1, q.2.1, q.2.2.1⟩, k.here e dk q.2.2.2 (.int _)⟩
  · exact q.elim
theorem o_and : OpR X (binaryOp .BitAnd) (LO2 B X.kn andD) := opR_by fun v u H Q ⟨F, x, y, Qd, e, dk, r1, r2, q, k⟩ => by
  unfold andD at q
  split at q
  · exact ⟨_, op_and, _, _, r1.int, r2.int, k.here e dk q (.int _)⟩
  · exact q.elim
theorem o_xor : OpR X (binaryOp .BitXor) (LO2 B X.kn xorD) := opR_by fun v u H Q ⟨F, x, y, Qd, e, dk, r1, r2, q, k⟩ => by
  unfold xorD at q
  split at q
  · exact ⟨_, op_xor, _, _, r1.int, r2.int, k.here e dk q (.int _)⟩
  · exact q.elim
theorem o_neg : UnR X (unaryOp .USub) (LO1 B X.kn negD) := unR_by fun v H Q ⟨F, x, Qd, e, dk, r1, q, k⟩ => by
  unfold negD at q
  split at q
  · exact ⟨_, un_neg, _, r1.int, k.here e dk q (.int _)⟩
  · exact q.elim

/-! ### plain data and their equality -/
mutual
def toPy : D → PyData
  | .non => .none
  | .bl b => .bool b
  | .int i => .int i
  | .str x => .str x
  | .tup xs => .tuple (toPys xs)
  | .lst xs => .list (toPys xs)
  | .dic kvs => .dict (toPyK kvs)
  | .obj _ _ => .none
  | .opq _ => .none
def toPys : List D → List PyData
  | [] => []
  | x :: xs => toPy x :: toPys xs
def toPyK : List (Key × D) → List (PyData × PyData)
  | [] => []
  | (.inl i, x) :: xs => (.int i, toPy x) :: toPyK xs
  | (.inr i, x) :: xs => (.str i, toPy x) :: toPyK xs
end
/-! plain data: no dict, no object within, at most n deep -/
mutual
def pl : Nat → D → Bool
  | _, .non => true
  | _, .bl _ => true
  | _, .int _ => true
  | _, .str x => PyData.strOk x
  | 0, .tup _ => false
  | 0, .lst _ => false
  | n + 1, .tup xs => pls n xs
  | n + 1, .lst xs => pls n xs
  | _, .dic _ => false
  | _, .obj _ _ => false
  | _, .opq _ => false
def pls : Nat → List D → Bool
  | _, [] => true
  | n, x :: xs => pl n x && pls n xs
end
theorem toPys_map : ∀ xs : List D, toPys xs = xs.map toPy
  | [] => by simp [toPys]
  | x :: xs => by simp [toPys, toPys_map xs]
theorem pls_all (n : Nat) : ∀ xs : List D, pls n xs = xs.all (pl n)
  | [] => by simp [pls]
  | x :: xs => by simp [pls, pls_all n xs]
mutual
theorem pl_shape : ∀ (n : Nat) (d : D), pl n d = true → (toPy d).canLay0 = true ∧ (toPy d).depth ≤ n
  | n, .non, _ => by simp [toPy, PyData.canLay0, PyData.depth]
  | n, .bl b, _ => by simp [toPy, PyData.canLay0, PyData.depth]
  | n, .int b, _ => by simp [toPy, PyData.canLay0, PyData.depth]
  | n, .str x, h => by
    simp only [pl] at h
    simp [toPy, PyData.canLay0, PyData.depth, h]
  | 0, .tup xs, h => by simp [pl] at h
  | 0, .lst xs, h => by simp [pl] at h
  | n + 1, .tup xs, h => by
    simp only [pl] at h
    obtain ⟨h1, h2⟩ := pls_shape n xs h
    simp only [toPy, PyData.canLay0, PyData.depth]
    exact ⟨h1, by omega⟩
  | n + 1, .lst xs, h => by
    simp only [pl] at h
    obtain ⟨h1, h2⟩ := pls_shape n xs h
    simp only [toPy, PyData.canLay0, PyData.depth]
    exact ⟨h1, by omega⟩
  | n, .dic _, h => by simp [pl] at h
  | n, .obj _ _, h => by simp [pl] at h
  | n, .opq _, h => by simp [pl] at h
theorem pls_shape : ∀ (n : Nat) (d : List D), pls n d = true → PyData.canLayAll0 (toPys d) = true ∧ PyData.depthAll (toPys d) ≤ n
  | n, [], _ => by simp [toPys, PyData.canLayAll0, PyData.depthAll]
  | n, x :: xs, h => by
    simp only [pls, Bool.and_eq_true] at h
    obtain ⟨h1, h2⟩ := pl_shape n x h.1
    obtain ⟨h3, h4⟩ := pls_shape n xs h.2
    simp only [toPys, PyData.canLayAll0, PyData.depthAll, Bool.and_eq_true]
    exact ⟨⟨h1, h3⟩, by omega⟩
end
theorem pl_shaped {d : D} (h : pl 64 d = true) : SeqAt.shaped (toPy d) = true := by
  obtain ⟨h1, h2⟩ := pl_shape 64 d h
  show ((toPy d).canLay0 && decide ((toPy d).depth ≤ 64)) = true
  rw [h1, decide_eq_true h2]
  rfl
mutual
theorem Rep.dp {K : Kn} {F H : Hp} (e : Same F H) : ∀ (n : Nat) (d : D) (v : V), pl n d = true → Rep K F v d → Dp K.K H v (toPy d)
  | _, .non, _, _, h => by cases h; simp only [toPy]; exact .non
  | _, .bl _, _, _, h => by cases h; simp only [toPy]; exact .bl _
  | _, .int _, _, _, h => by cases h; simp only [toPy]; exact .int _
  | _, .str _, _, _, h => by cases h; simp only [toPy]; exact .str _
  | 0, .tup _, _, p, h => by simp [pl] at p
  | 0, .lst _, _, p, h => by simp [pl] at p
  | n + 1, .tup xs, _, p, h => by
    simp only [pl] at p
    cases h with
    | tup h r =>
      simp only [toPy]
      exact .tup (same_t e h) (Reps.dp e n xs _ p r)
  | n + 1, .lst xs, _, p, h => by
    simp only [pl] at p
    cases h with
    | lst h r =>
      simp only [toPy]
      exact .lst (SqL.of (e _ _ h)) (Reps.dp e n xs _ p r)
  | _, .dic _, _, p, _ => by simp [pl] at p
  | _, .obj _ _, _, p, _ => by simp [pl] at p
  | _, .opq _, _, p, _ => by simp [pl] at p
theorem Reps.dp {K : Kn} {F H : Hp} (e : Same F H) : ∀ (n : Nat) (d : List D) (v : List V), pls n d = true → Reps K F v d → DpAll K.K H v (toPys d)
  | _, [], _, _, h => by cases h; simp only [toPys]; exact .nil
  | n, x :: xs, _, p, h => by
    simp only [pls, Bool.and_eq_true] at p
    cases h with
    | cons h1 h2 =>
      simp only [toPys]
      exact .cons (Rep.dp e n x _ p.1 h1) (Reps.dp e n xs _ p.2 h2)
end
theorem RepB.dp {W : WT} {K : Kn} {F H : Hp} {v : V} {d : D} (h : RepB W K F H v d) (e : Same F H) (p : pl 64 d = true) : Dp K.K H v (toPy d) := by
  rcases h with h | ⟨a, ds, vs, rfl, rfl, _, h, r⟩ | ⟨a, ds, vs, rfl, rfl, _, h, r⟩
  · exact h.dp e 64 d v p
  · simp only [pl] at p
    simp only [toPy]
    exact .lst (SqL.of h) (Reps.dp e 63 ds _ p r)
  · simp [pl] at p
/-- Python's == on plain data -/
def eqb (x y : D) : Bool := PyData.eqv (toPy x) (toPy y)
def eqD : D → D → (D → Prop) → Prop
  | .str a, .str b, Q => Q (.bl (decide (a = b)))
  | x, y, Q => pl 64 x = true ∧ pl 64 y = true ∧ Q (.bl (eqb x y))
def neD : D → D → (D → Prop) → Prop
  | .str a, .str b, Q => Q (.bl (!decide (a = b)))
  | x, y, Q => pl 64 x = true ∧ pl 64 y = true ∧ Q (.bl (!eqb x y))
theorem vstr {a b : Str} : decide (V.str a = V.str b) = decide (a = b) := by
  by_cases h : a = b
  · subst h; simp
  · rw [decide_eq_false h, decide_eq_false fun z => h (V.str.inj z)]
theorem o_eq (hu : X.A.units + 64 < cLine) : OpR X (compareOp .Eq) (LO2 B X.kn eqD) := opR_by fun v u H Q ⟨F, x, y, Qd, e, dk, r1, r2, q, k⟩ => by
  unfold eqD at q
  split at q
  · refine ⟨_, op_eq, ?_, ?_⟩
    · rw [r1.str, r2.str]; rfl
    · rw [r1.str, r2.str, vstr]; exact k.here e dk q (.bl _)
  · exact ⟨_, op_eqD hu, _, _, r1.dp e q.1, r2.dp e q.2.1, pl_shaped q.1, pl_shaped q.2.1, k.here e dk q.2.2 (.bl _)⟩
theorem o_ne (hu : X.A.units + 64 < cLine) : OpR X (compareOp .NotEq) (LO2 B X.kn neD) := opR_by fun v u H Q ⟨F, x, y, Qd, e, dk, r1, r2, q, k⟩ => by
  unfold neD at q
  split at q
  · refine ⟨_, op_ne, ?_, ?_⟩
    · rw [r1.str, r2.str]; rfl
    · rw [r1.str, r2.str, vstr]; exact k.here e dk q (.bl _)
  · exact ⟨_, op_neD hu, _, _, r1.dp e q.1, r2.dp e q.2.1, pl_shaped q.1, pl_shaped q.2.1, k.here e dk q.2.2 (.bl _)⟩
/-- in: plain data in a tuple or a list of such; a sign in a text -/
def inb (x : D) (ys : List D) : Bool := ys.any fun z => eqb z x
def inD (neg : Bool) : D → D → (D → Prop) → Prop
  | x, .tup ys, Q => pl 64 x = true ∧ pl 64 (.tup ys) = true ∧ Q (.bl (if neg then !inb x ys else inb x ys))
  | x, .lst ys, Q => pl 64 x = true ∧ pl 64 (.lst ys) = true ∧ Q (.bl (if neg then !inb x ys else inb x ys))
  | .str x, .str y, Q => ∃ c, x = ⟨#[c]⟩ ∧ Q (.bl (if neg then !decide (c ∈ y.cps.toList) else decide (c ∈ y.cps.toList)))
  | _, _, _ => False
theorem any_toPy (x : D) : ∀ ys : List D, ((toPys ys).any fun z => PyData.eqv z (toPy x)) = inb x ys
  | [] => by simp [toPys, inb]
  | y :: ys => by
    have := any_toPy x ys
    simp only [toPys, List.any_cons, this, inb, eqb]
def rInT (K : PySem.W.Frag) (neg : Bool) : R2 := fun x y H Q => ∃ d ds, Dp K H x d ∧ Dp K H y (.tuple ds) ∧ SeqAt.shaped d = true ∧ SeqAt.shaped (.tuple ds) = true ∧ Q (.bl (if neg then !(ds.any fun z => PyData.eqv z d) else ds.any fun z => PyData.eqv z d)) H
theorem op_inTup (hu : X.A.units + 65 < cLine) : OpR X (compareOp .In) (rInT X.K false) := fun _ _ _ H one all v u _ I isOne isAll ⟨d, ds, dOne, dAll, okOne, okAll, q⟩ => by
  obtain ⟨⟨_, readsOne⟩, _, readsAll⟩ := And.intro (Dp.reads I d one v dOne isOne) (Dp.reads I (.tuple ds) all u dAll isAll)
  exact SeqAt.in_tuple_reads readsAll readsOne (SeqAt.canLay_of_shaped okAll) (SeqAt.canLay_of_shaped okOne) (PyProof.Rows.room_in_shaped okOne hu) ⟨.bl _, H, I, rfl, q⟩
theorem op_notInTup (hu : X.A.units + 65 < cLine) : OpR X (compareOp .NotIn) (rInT X.K true) := fun _ _ _ H one all v u _ I isOne isAll ⟨d, ds, dOne, dAll, okOne, okAll, q⟩ => by
  obtain ⟨⟨_, readsOne⟩, _, readsAll⟩ := And.intro (Dp.reads I d one v dOne isOne) (Dp.reads I (.tuple ds) all u dAll isAll)
  exact SeqAt.notIn_tuple_reads readsAll readsOne (SeqAt.canLay_of_shaped okAll) (SeqAt.canLay_of_shaped okOne) (PyProof.Rows.room_in_shaped okOne hu) ⟨.bl _, H, I, rfl, q⟩
theorem o_in (hu : X.A.units + 65 < cLine) : OpR X (compareOp .In) (LO2 B X.kn (inD false)) := opR_by fun v u H Q ⟨F, x, y, Qd, e, dk, r1, r2, q, k⟩ => by
  unfold inD at q
  split at q
  · have d2 := r2.dp e q.2.1
    have s2 := pl_shaped q.2.1
    simp only [toPy] at d2 s2
    exact ⟨_, op_inTup hu, _, _, r1.dp e q.1, d2, pl_shaped q.1, s2, by rw [any_toPy]; exact k.here e dk q.2.2 (.bl _)⟩
  · have d2 := r2.dp e q.2.1
    have s2 := pl_shaped q.2.1
    simp only [toPy] at d2 s2
    exact ⟨_, op_inD hu, _, _, r1.dp e q.1, d2, pl_shaped q.1, s2, by rw [any_toPy]; exact k.here e dk q.2.2 (.bl _)⟩
  · obtain ⟨c, rfl, q⟩ := q
    exact ⟨_, op_in_sign, c, _, r1.str, r2.str, k.here e dk q (.bl _)⟩
  · exact q.elim
theorem o_notIn (hu : X.A.units + 65 < cLine) : OpR X (compareOp .NotIn) (LO2 B X.kn (inD true)) := opR_by fun v u H Q ⟨F, x, y, Qd, e, dk, r1, r2, q, k⟩ => by
  unfold inD at q
  split at q
  · have d2 := r2.dp e q.2.1
    have s2 := pl_shaped q.2.1
    simp only [toPy] at d2 s2
    exact ⟨_, op_notInTup hu, _, _, r1.dp e q.1, d2, pl_shaped q.1, s2, by rw [any_toPy]; exact k.here e dk q.2.2 (.bl _)⟩
  · have d2 := r2.dp e q.2.1
    have s2 := pl_shaped q.2.1
    simp only [toPy] at d2 s2
    exact ⟨_, op_notInD hu, _, _, r1.dp e q.1, d2, pl_shaped q.1, s2, by rw [any_toPy]; exact k.here e dk q.2.2 (.bl _)⟩
  · obtain ⟨c, rfl, q⟩ := q
    exact ⟨_, op_notIn_sign, c, _, r1.str, r2.str, k.here e dk q (.bl _)⟩
  · exact q.elim

/-- is: with None, two bools -/
def isD (neg : Bool) : D → D → (D → Prop) → Prop
  | .opq _, _, _ => False
  | .non, .non, Q => Q (.bl (!neg))
  | .bl a, .bl b, Q => Q (.bl (if neg then !decide (a = b) else decide (a = b)))
  | _, .non, Q => Q (.bl neg)
  | _, _, _ => False
theorem rep_ne_non {K : Kn} {W : WT} {F H : Hp} {v : V} {d : D} (h : RepB W K F H v d) (n : d ≠ .non) (n2 : ∀ u, d ≠ .opq u) : decide (v = V.non) = false := by
  refine decide_eq_false fun z => ?_
  subst z
  rcases h with h | ⟨a, ds, vs, e, _⟩ | ⟨a, ds, vs, e, _⟩
  · cases h with
    | non => exact n rfl
    | opq => exact n2 _ rfl
  · cases e
  · cases e
theorem o_is : OpR X (compareOp .Is) (LO2 B X.kn (isD false)) := opR_by fun v u H Q ⟨F, x, y, Qd, e, dk, r1, r2, q, k⟩ => by
  unfold isD at q
  split at q
  · exact q.elim
  · exact ⟨_, op_isN, r2.non, by rw [r1.non]; exact k.here e dk q (.bl _)⟩
  · exact ⟨_, op_isBl, _, _, r1.bl, r2.bl, k.here e dk q (.bl _)⟩
  · exact ⟨_, op_isN, r2.non, by rw [rep_ne_non r1 (by assumption) (by assumption)]; exact k.here e dk q (.bl _)⟩
  · exact q.elim
theorem o_isNot : OpR X (compareOp .IsNot) (LO2 B X.kn (isD true)) := opR_by fun v u H Q ⟨F, x, y, Qd, e, dk, r1, r2, q, k⟩ => by
  unfold isD at q
  split at q
  · exact q.elim
  · exact ⟨_, op_notN, r2.non, by rw [r1.non]; exact k.here e dk q (.bl _)⟩
  · exact ⟨_, op_notBl, _, _, r1.bl, r2.bl, k.here e dk q (.bl _)⟩
  · exact ⟨_, op_notN, r2.non, by rw [rep_ne_non r1 (by assumption) (by assumption)]; exact k.here e dk q (.bl _)⟩
  · exact q.elim
def ltD : D → D → (D → Prop) → Prop
  | .int i, .int j, Q => Q (.bl (decide (i < j)))
  | .str i, .str j, Q => Q (.bl (decide (i.cps.toList < j.cps.toList)))
  | _, _, _ => False
def leD : D → D → (D → Prop) → Prop
  | .int i, .int j, Q => Q (.bl (decide (i ≤ j)))
  | .str i, .str j, Q => Q (.bl (!decide (j.cps.toList < i.cps.toList)))
  | _, _, _ => False
def gtD : D → D → (D → Prop) → Prop
  | .int i, .int j, Q => Q (.bl (decide (j < i)))
  | .str i, .str j, Q => Q (.bl (decide (j.cps.toList < i.cps.toList)))
  | _, _, _ => False
def geD : D → D → (D → Prop) → Prop
  | .int i, .int j, Q => Q (.bl (decide (j ≤ i)))
  | .str i, .str j, Q => Q (.bl (!decide (i.cps.toList < j.cps.toList)))
  | _, _, _ => False
theorem o_lt : OpR X (compareOp .Lt) (LO2 B X.kn ltD) := opR_by fun v u H Q ⟨F, x, y, Qd, e, dk, r1, r2, q, k⟩ => by
  unfold ltD at q
  split at q
  · exact ⟨_, op_lt, _, _, r1.int, r2.int, k.here e dk q (.bl _)⟩
  · exact ⟨_, op_lt_str, _, _, r1.str, r2.str, k.here e dk q (.bl _)⟩
  · exact q.elim
theorem o_le : OpR X (compareOp .LtE) (LO2 B X.kn leD) := opR_by fun v u H Q ⟨F, x, y, Qd, e, dk, r1, r2, q, k⟩ => by
  unfold leD at q
  split at q
  · exact ⟨_, op_le, _, _, r1.int, r2.int, k.here e dk q (.bl _)⟩
  · exact ⟨_, op_le_str, _, _, r1.str, r2.str, k.here e dk q (.bl _)⟩
  · exact q.elim
theorem o_gt : OpR X (compareOp .Gt) (LO2 B X.kn gtD) := opR_by fun v u H Q ⟨F, x, y, Qd, e, dk, r1, r2, q, k⟩ => by
  unfold gtD at q
  split at q
  · exact ⟨_, op_gt, _, _, r1.int, r2.int, k.here e dk q (.bl _)⟩
  · exact ⟨_, op_gt_str, _, _, r1.str, r2.str, k.here e dk q (.bl _)⟩
  · exact q.elim
theorem o_ge : OpR X (compareOp .GtE) (LO2 B X.kn geD) := opR_by fun v u H Q ⟨F, x, y, Qd, e, dk, r1, r2, q, k⟩ => by
  unfold geD at q
  split at q
  · exact ⟨_, op_ge, _, _, r1.int, r2.int, k.here e dk q (.bl _)⟩
  · exact ⟨_, op_ge_str, _, _, r1.str, r2.str, k.here e dk q (.bl _)⟩
  · exact q.elim

/-! ### comparisons as values and tests; truth; and, or, not -/
variable {g g' : D → D → (D → Prop) → Prop} {ft fu : GT} {rest : List Expr}
theorem ed_cmp {op : CmpOp} (ho : OpR X (compareOp op) (LO2 B X.kn g)) (ha : BD B X a fa) (hb : BD B X b fb) (hm : behindInMarks op b = false) : ED B X (.Compare a [op] [b] pos) (gBin g fa fb) :=
  ⟨pe_imp (pe_cmpR ho ha.run hb.run hm) fun s H Q ⟨σ, F, Qd, R, q, k⟩ => lo2_of R q k⟩
/-- if, by a bool: does not open where the bool is not known -/
def iteB : Bool → Prop → Prop → Prop
  | true, p, _ => p
  | false, _, q => q
@[simp] theorem iteB_eq (b : Bool) (p q : Prop) : iteB b p q = (if b = true then p else q) := by cases b <;> simp [iteB]
/-- a value that has to be a bool, as a test -/
def isBl : D → (Bool → Prop) → Prop
  | .bl b, Q => Q b
  | _, _ => False
@[simp] theorem isBl_b (b : Bool) (Q : Bool → Prop) : isBl (.bl b) Q ↔ Q b := Iff.rfl
theorem isBl_ex {d : D} {Q : Bool → Prop} (h : isBl d Q) : ∃ b, d = .bl b ∧ Q b := by
  cases d with
  | bl b => exact ⟨b, rfl, h⟩
  | _ => exact False.elim h
theorem isBl_in {d : D} {Q : Bool → Prop} (h : ∃ b, d = .bl b ∧ Q b) : isBl d Q := by
  obtain ⟨b, rfl, q⟩ := h
  exact q
@[simp] def gB (f : GE) (σ : List SV) (Q : Bool → Prop) : Prop := f σ fun d => isBl d Q
theorem fin_b {K : Kn} {F H : Hp} {Qd : Bool → Prop} {Q : Bool → Hp → Prop} (k : FinT B F H Qd Q) : Fin B K F H (fun d => isBl d Qd) fun x H' => ∃ b, x = .bl b ∧ Q b H' := fun d q0 F' H' v g dk r => by
  obtain ⟨b, e, q⟩ := isBl_ex q0
  subst e
  cases r
  exact ⟨b, rfl, k b q F' H' g dk⟩
theorem td_cmp {op : CmpOp} (ho : OpR X (compareOp op) (LO2 B X.kn g)) (ha : BD B X a fa) (hb : BD B X b fb) (hm : behindInMarks op b = false) : TD B X (.Compare a [op] [b] pos) (gB (gBin g fa fb)) :=
  ⟨pt_imp (pt_cmpR ho ha.run hb.run hm) fun s H Q ⟨σ, F, Qd, R, q, k⟩ => lo2_of R q (fin_b k)⟩
@[simp] def gChain (g g' : D → D → (D → Prop) → Prop) (fa fb fc : GE) (σ : List SV) (Q : D → Prop) : Prop := fa σ fun x => fb σ fun y => g x y fun r => isBl r fun b => iteB b (fc σ fun z => g' y z Q) (Q (.bl false))
theorem lo_chain {K : Kn} {s : L2.St} {σ : List SV} {F H : Hp} {Qd : D → Prop} {Q : VK} (R : Rel B K σ s F H) (q : gChain g g' fa fb fc σ Qd) (k : Fin B K F H Qd Q) : tChain (LO2 B K g) (LO2 B K g') (LB B K fa) (LB B K fb) (LB B K fc) s H Q := by
  refine lb_two (R2 := fun x y H2 => LO2 B K g x y H2 fun z H3 => ∃ k, z = .bl k ∧ (if k = true then LB B K fc s H3 fun w' H4 => LO2 B K g' y w' H4 Q else Q (.bl false) H3)) R q fun x y F1 H1 v u qq g1 dk r1 r2 => ?_
  refine ⟨F1, x, y, _, g1.fh, dk, r1, r2, qq, fun d qq3 F2 H2 w g2 dk2 r3 => ?_⟩
  obtain ⟨b, e, q3⟩ := isBl_ex qq3
  subst e
  cases r3
  refine ⟨b, rfl, ?_⟩
  cases b with
  | false => exact k _ q3 F2 H2 _ (g1.trans g2) dk2 (.bl false)
  | true => exact ⟨σ, F2, _, R.grow (g1.trans g2) dk2, q3, fun z qz F3 H3 w3 g3 dk3 r4 => ⟨F3, y, z, Qd, g3.fh, dk3, r2.grow (g2.trans g3), r4, qz, k.more ((g1.trans g2).trans g3)⟩⟩
theorem ed_chain {op op' : CmpOp} (ho : OpR X (compareOp op) (LO2 B X.kn g)) (ho' : OpR X (compareOp op') (LO2 B X.kn g')) (ha : BD B X a fa) (hb : BD B X b fb) (hc : BD B X c fc)
    (hm : lastMarks [op, op'] [b, c] = false := by with_unfolding_all rfl) : ED B X (.Compare a [op, op'] [b, c] pos) (gChain g g' fa fb fc) :=
  ⟨pe_imp (pe_chain ho ho' ha.run hb.run hc.run hm) fun s H Q ⟨σ, F, Qd, R, q, k⟩ => lo_chain R q k⟩
theorem td_chain {op op' : CmpOp} (ho : OpR X (compareOp op) (LO2 B X.kn g)) (ho' : OpR X (compareOp op') (LO2 B X.kn g')) (ha : BD B X a fa) (hb : BD B X b fb) (hc : BD B X c fc)
    (hm : lastMarks [op, op'] [b, c] = false := by with_unfolding_all rfl) : TD B X (.Compare a [op, op'] [b, c] pos) (gB (gChain g g' fa fb fc)) :=
  ⟨pt_imp (pt_chain ho ho' ha.run hb.run hc.run hm) fun s H Q ⟨σ, F, Qd, R, q, k⟩ => lo_chain R q (fin_b k)⟩
/-- the truth of data -/
def truthD : D → (Bool → Prop) → Prop
  | .non, Q => Q false
  | .bl b, Q => Q b
  | .int i, Q => Q (i != 0)
  | .str x, Q => x.length ≤ sizeLine ∧ Q ((x.length : Int) != 0)
  | .tup xs, Q => Q (!xs.isEmpty)
  | .lst xs, Q => Q (!xs.isEmpty)
  | .dic kvs, Q => Q (!kvs.isEmpty)
  | _, _ => False
theorem Reps.isEmpty {K : Kn} {F : Hp} {vs : List V} {ds : List D} (h : Reps K F vs ds) : vs.isEmpty = ds.isEmpty := by cases h <;> rfl
theorem RepKs.isEmpty {K : Kn} {F : Hp} {vs : List (Key × V)} {ds : List (Key × D)} (h : RepKs K F vs ds) : vs.isEmpty = ds.isEmpty := by cases h <;> rfl
theorem truth_of {K : Kn} {W : WT} {F H : Hp} {v : V} {d : D} {Qd : Bool → Prop} (r : RepB W K F H v d) (e : Same F H) (q : truthD d Qd) : ∃ b, TruV K.K v H b ∧ Qd b := by
  unfold truthD at q
  split at q
  · rw [r.non]; exact ⟨_, rfl, q⟩
  · rw [r.bl]; exact ⟨_, rfl, q⟩
  · rw [r.int]; exact ⟨_, rfl, q⟩
  · rw [r.str]; exact ⟨_, ⟨q.1, rfl⟩, q.2⟩
  · obtain ⟨a, vs, rfl, _, h, s⟩ := r.tup e
    exact ⟨_, .inr (.inl ⟨vs, h, by rw [s.isEmpty]⟩), q⟩
  · obtain ⟨a, vs, rfl, h, s⟩ := r.lst e
    exact ⟨_, .inl ⟨vs, SqL.of h, by rw [s.isEmpty]⟩, q⟩
  · obtain ⟨a, vs, rfl, h, s⟩ := r.dic e
    exact ⟨_, .inr (.inr ⟨vs, h, by rw [s.isEmpty]⟩), q⟩
  · exact q.elim
@[simp] def gTru (f : GE) (σ : List SV) (Q : Bool → Prop) : Prop := f σ fun d => truthD d Q
theorem td_val (ha : BD B X a fa) (he : ∀ whole, isTrue a X.env whole = (do let v ← whole; standAt a.pos; holding [v] (truthy v)) := by intro _; rfl) : TD B X a (gTru fa) :=
  ⟨pt_imp (pt_truth ha.run he) fun s H Q ⟨σ, F, Qd, R, q, k⟩ => ⟨σ, F, _, R, q, fun d qd F' H' v g dk r => by
    obtain ⟨b, h1, h2⟩ := truth_of r g.fh qd
    exact ⟨b, h1, k b h2 F' H' g dk⟩⟩⟩
@[simp] def gNotT (ft : GT) (σ : List SV) (Q : Bool → Prop) : Prop := ft σ fun b => Q (!b)
theorem td_not (ha : TD B X a ft) : TD B X (.UnaryOp .Not a pos) (gNotT ft) := ⟨pt_imp (pt_not ha.run) fun s H Q ⟨σ, F, Qd, R, q, k⟩ => ⟨σ, F, _, R, q, fun b qb F' H' g dk => k _ qb F' H' g dk⟩⟩
@[simp] def gAndT (ft fu : GT) (σ : List SV) (Q : Bool → Prop) : Prop := ft σ fun b => iteB b (fu σ Q) (Q false)
@[simp] def gOrT (ft fu : GT) (σ : List SV) (Q : Bool → Prop) : Prop := ft σ fun b => iteB b (Q true) (fu σ Q)
theorem wd_and1 (ha : TD B X a ft) : WDd B X (.BoolOp .And [a] pos) ft := ⟨pw_and1 ha.run⟩
theorem wd_or1 (ha : TD B X a ft) : WDd B X (.BoolOp .Or [a] pos) ft := ⟨pw_or1 ha.run⟩
theorem wd_and (ha : TD B X a ft) (hb : WDd B X (.BoolOp .And (b :: rest) pos) fu) : WDd B X (.BoolOp .And (a :: b :: rest) pos) (gAndT ft fu) :=
  ⟨pw_imp (pw_and ha.run hb.run) fun s H Q ⟨σ, F, Qd, R, q, k⟩ => ⟨σ, F, _, R, q, fun c qc F' H' g dk => by
    cases c with
    | true => exact ⟨σ, F', Qd, R.grow g dk, qc, k.more g⟩
    | false => exact k _ qc F' H' g dk⟩⟩
theorem wd_or (ha : TD B X a ft) (hb : WDd B X (.BoolOp .Or (b :: rest) pos) fu) : WDd B X (.BoolOp .Or (a :: b :: rest) pos) (gOrT ft fu) :=
  ⟨pw_imp (pw_or ha.run hb.run) fun s H Q ⟨σ, F, Qd, R, q, k⟩ => ⟨σ, F, _, R, q, fun c qc F' H' g dk => by
    cases c with
    | false => exact ⟨σ, F', Qd, R.grow g dk, qc, k.more g⟩
    | true => exact k _ qc F' H' g dk⟩⟩
theorem WDd.t (h : WDd B X e ft) : TD B X e ft := ⟨h.run.pt⟩
/-- as values -/
@[simp] def gAnd (fa fb : GE) (σ : List SV) (Q : D → Prop) : Prop := fa σ fun x => truthD x fun b => iteB b (fb σ Q) (Q x)
@[simp] def gOr (fa fb : GE) (σ : List SV) (Q : D → Prop) : Prop := fa σ fun x => truthD x fun b => iteB b (Q x) (fb σ Q)
@[simp] def gNot (fa : GE) (σ : List SV) (Q : D → Prop) : Prop := fa σ fun x => truthD x fun b => Q (.bl (!b))
theorem ed_one {op : BoolOp} (h : ED B X a fa) : ED B X (.BoolOp op [a] pos) fa := ⟨pe_one h.run⟩
theorem ed_and (ha : ED B X a fa) (hb : ED B X (.BoolOp .And (b :: rest) pos) fb) : ED B X (.BoolOp .And (a :: b :: rest) pos) (gAnd fa fb) :=
  ⟨pe_imp (pe_andT ha.run hb.run) fun s H Q ⟨σ, F, Qd, R, q, k⟩ => ⟨σ, F, _, R, q, fun d qd F' H' v g dk r => by
    obtain ⟨c, h1, h2⟩ := truth_of (W := B.W) (.inl r) g.fh qd
    refine ⟨c, h1, ?_⟩
    cases c with
    | true => exact ⟨σ, F', Qd, R.grow g dk, h2, k.more g⟩
    | false => exact k _ h2 F' H' v g dk r⟩⟩
theorem ed_or (ha : ED B X a fa) (hb : ED B X (.BoolOp .Or (b :: rest) pos) fb) : ED B X (.BoolOp .Or (a :: b :: rest) pos) (gOr fa fb) :=
  ⟨pe_imp (pe_orT ha.run hb.run) fun s H Q ⟨σ, F, Qd, R, q, k⟩ => ⟨σ, F, _, R, q, fun d qd F' H' v g dk r => by
    obtain ⟨c, h1, h2⟩ := truth_of (W := B.W) (.inl r) g.fh qd
    refine ⟨c, h1, ?_⟩
    cases c with
    | false => exact ⟨σ, F', Qd, R.grow g dk, h2, k.more g⟩
    | true => exact k _ h2 F' H' v g dk r⟩⟩
theorem ed_not (ha : BD B X a fa) : ED B X (.UnaryOp .Not a pos) (gNot fa) :=
  ⟨pe_imp (pe_notT ha.run) fun s H Q ⟨σ, F, Qd, R, q, k⟩ => ⟨σ, F, _, R, q, fun d qd F' H' v g dk r => by
    obtain ⟨c, h1, h2⟩ := truth_of r g.fh qd
    exact ⟨c, h1, k _ h2 F' H' _ g dk (.bl _)⟩⟩⟩
@[simp] def gIf (ft : GT) (fa fb : GE) (σ : List SV) (Q : D → Prop) : Prop := ft σ fun b => iteB b (fa σ Q) (fb σ Q)
theorem ed_if (hc : TD B X c ft) (ha : ED B X a fa) (hb : ED B X b fb) : ED B X (.IfExp c a b pos) (gIf ft fa fb) :=
  ⟨pe_imp (pe_ifExp hc.run ha.run hb.run) fun s H Q ⟨σ, F, Qd, R, q, k⟩ => ⟨σ, F, _, R, q, fun d qd F' H' g dk => by
    cases d with
    | true => exact ⟨σ, F', Qd, R.grow g dk, qd, k.more g⟩
    | false => exact ⟨σ, F', Qd, R.grow g dk, qd, k.more g⟩⟩⟩
/-- borrowed either way -/
theorem bd_if (hc : TD B X c ft) (ha : BD B X a fa) (hb : BD B X b fb) : BD B X (.IfExp c a b pos) (gIf ft fa fb) :=
  ⟨pe_imp (pe_ifExp hc.run ha.run hb.run) fun s H Q ⟨σ, F, Qd, R, q, k⟩ => ⟨σ, F, _, R, q, fun d qd F' H' g dk => by
    cases d with
    | true => exact ⟨σ, F', Qd, R.grow g dk, qd, k.more g⟩
    | false => exact ⟨σ, F', Qd, R.grow g dk, qd, k.more g⟩⟩⟩

/-! ### arguments, displays -/
@[simp] def gNil (_ : List SV) (Q : List D → Prop) : Prop := Q []
@[simp] def gCons (fa : GE) (fs : GA) (σ : List SV) (Q : List D → Prop) : Prop := fa σ fun x => fs σ fun xs => Q (x :: xs)
theorem ad_nil : AD B X [] gNil := ⟨pa_imp pa_nil fun s H Q ⟨σ, F, Qd, R, q, k⟩ => k _ q F H _ (Grow.refl R.ex) R.deck .nil⟩
theorem ad_cons {fs : GA} (ha : ED B X e fa) (hr : AD B X es fs) (hs : starEach (e :: es) X.env = (false, eval e X.env) :: starEach es X.env := by rfl) : AD B X (e :: es) (gCons fa fs) :=
  ⟨pa_imp (pa_cons ha.run hr.run hs) fun s H Q ⟨σ, F, Qd, R, q, k⟩ => ⟨σ, F, _, R, q, fun d qd F1 H1 v g1 d1 r1 => ⟨σ, F1, _, R.grow g1 d1, qd, fun ds qds F2 H2 vs g2 d2 r2 => k _ qds F2 H2 _ (g1.trans g2) d2 (.cons (r1.mono g2.ff) r2)⟩⟩⟩
theorem abd_nil : ABD B X [] gNil := ⟨pa_imp pa_nil fun s H Q ⟨σ, F, Qd, R, q, k⟩ => k _ q F H _ (Grow.refl R.ex) R.deck .nil⟩
theorem abd_cons {fs : GA} (ha : BD B X e fa) (hr : ABD B X es fs) (hs : starEach (e :: es) X.env = (false, eval e X.env) :: starEach es X.env := by rfl) : ABD B X (e :: es) (gCons fa fs) :=
  ⟨pa_imp (pa_cons ha.run hr.run hs) fun s H Q ⟨σ, F, Qd, R, q, k⟩ => ⟨σ, F, _, R, q, fun d qd F1 H1 v g1 d1 r1 => ⟨σ, F1, _, R.grow g1 d1, qd, fun ds qds F2 H2 vs g2 d2 r2 => k _ qds F2 H2 _ (g1.trans g2) d2 (.cons (r1.grow g2) r2)⟩⟩⟩
@[simp] def gTup (fs : GA) (σ : List SV) (Q : D → Prop) : Prop := fs σ fun xs => xs.length ≤ sizeLine ∧ Q (.tup xs)
@[simp] def gLst (fs : GA) (σ : List SV) (Q : List D → Prop) : Prop := fs σ fun xs => xs.length ≤ sizeLine ∧ Q xs
theorem ed_tup {fs : GA} {x1} (h : AD B X es fs) : ED B X (.Tuple es x1 pos) (gTup fs) :=
  ⟨pe_imp (pe_tup h.run) fun s H Q ⟨σ, F, Qd, R, q, k⟩ => ⟨σ, F, _, R, q, fun ds qd F1 H1 vs g1 d1 r1 => ⟨by rw [r1.length]; exact qd.1, fun p hp =>
    (k.more g1).frz g1.fh d1 qd.2 hp (.tup (SqT.of upd_same) (r1.mono (same_new (g1.fh.free hp))))⟩⟩⟩
theorem fd_lst {fs : GA} (h : AD B X es fs) : FD B X (.List es pos) (gLst fs) :=
  ⟨pe_imp (pe_lst h.run) fun s H Q ⟨σ, F, Qd, R, q, k⟩ => ⟨σ, F, _, R, q, fun ds qd F1 H1 vs g1 d1 r1 => ⟨by rw [r1.length]; exact qd.1, fun p hp => (k.more g1).laid g1.fh d1 qd.2 hp r1⟩⟩⟩

/-! ### items -/
def look {κ : Type} [BEq κ] (kvs : List (κ × D)) (k : κ) : Option D := kvs.lookup k
def ixD : D → D → (D → Prop) → Prop
  | .tup xs, .int i, Q => ∃ x, atI xs i = some x ∧ Q x
  | .lst xs, .int i, Q => ∃ x, atI xs i = some x ∧ Q x
  | .str z, .int i, Q => z.length ≤ sizeLine ∧ ∃ c, atI z.cps.toList i = some c ∧ Q (.str ⟨#[c]⟩)
  | _, _, _ => False
theorem Reps.atI {K : Kn} {F : Hp} {vs : List V} {ds : List D} {i : Int} {x : D} (h : Reps K F vs ds) (e : L2.atI ds i = some x) : ∃ v, L2.atI vs i = some v ∧ Rep K F v x := by
  unfold L2.atI at e ⊢
  rw [h.length]
  cases q : ixN ds.length i with
  | none =>
    rw [q] at e
    cases e
  | some j =>
    rw [q] at e
    obtain ⟨v, h1, h2⟩ := h.get (i := j) (x := x) e
    exact ⟨v, h1, h2⟩
theorem ixR_by {r' : R2} (w : ∀ v u H Q, r' v u H Q → ∃ r, IxR X r ∧ r v u H Q) : IxR X r' := fun vl sl pins s σ H x y v u Q I rx ry h hs => by
  obtain ⟨r, h1, h2⟩ := w _ _ _ _ h
  exact h1 vl sl pins s σ H x y v u Q I rx ry h2 hs
theorem o_ix : IxR X (LO2 B X.kn ixD) := ixR_by fun v u H Q ⟨F, x, y, Qd, e, dk, r1, r2, q, k⟩ => by
  unfold ixD at q
  split at q
  · obtain ⟨a, vs, rfl, _, h, s⟩ := r1.tup e
    obtain ⟨x, h1, q⟩ := q
    obtain ⟨w, h2, h3⟩ := s.atI h1
    exact ⟨_, ix_tup, a, vs, _, w, rfl, r2.int, h, h2, k.here e dk q h3⟩
  · obtain ⟨a, vs, rfl, h, s⟩ := r1.lst e
    obtain ⟨x, h1, q⟩ := q
    obtain ⟨w, h2, h3⟩ := s.atI h1
    exact ⟨_, ix_list, a, vs, _, w, rfl, r2.int, SqL.of h, h2, k.here e dk q h3⟩
  · obtain ⟨z, c, h1, q⟩ := q
    exact ⟨_, ix_str, _, _, c, r1.str, r2.int, z, h1, k.here e dk q (.str _)⟩
  · exact q.elim
theorem ed_ix (ha : BD B X a fa) (hb : BD B X b fb) (hs : PlainIx b := by exact fun _ _ => rfl) : ED B X (.Subscript a b pos) (gBin ixD fa fb) :=
  ⟨pe_imp (pe_ix o_ix ha.run hb.run hs) fun s H Q ⟨σ, F, Qd, R, q, k⟩ => lo2_of R q k⟩

/-! ### slices -/
abbrev GO := List SV → (Option Int → Prop) → Prop
def LO (B : Bs) (K : Kn) (f : GO) : TO := fun s H Q => ∃ σ F Qd, Rel B K σ s F H ∧ f σ Qd ∧ ∀ o, Qd o → ∀ F' H', Grow B.W F H F' H' → DeckIn B.W F' H' → Q o H'
structure OD (B : Bs) (X : Cx) (e : Option Expr) (f : GO) : Prop where
  run : PO X e (LO B X.kn f)
theorem po_imp {e : Option Expr} {t t' : TO} (h : PO X e t) (w : ∀ s H Q, t' s H Q → t s H Q) : PO X e t' := ⟨fun pins s σ H Q I q => h.run pins s σ H Q I (w _ _ _ q)⟩
@[simp] def gNoPart (_ : List SV) (Q : Option Int → Prop) : Prop := Q none
def unI (d : D) (Q : Int → Prop) : Prop := ∃ i, d = .int i ∧ Q i
@[simp] theorem unI_i (b : Int) (Q : Int → Prop) : unI (.int b) Q ↔ Q b := ⟨fun ⟨_, e, q⟩ => by cases e; exact q, fun q => ⟨b, rfl, q⟩⟩
@[simp] def gPart (fa : GE) (σ : List SV) (Q : Option Int → Prop) : Prop := fa σ fun d => unI d fun i => Q (some i)
theorem od_none : OD B X none gNoPart := ⟨po_imp po_none fun s H Q ⟨σ, F, Qd, R, q, k⟩ => k _ q F H (Grow.refl R.ex) R.deck⟩
theorem od_some (ha : ED B X a fa) : OD B X (some a) (gPart fa) := ⟨po_imp (po_some ha.run) fun s H Q ⟨σ, F, Qd, R, q, k⟩ => ⟨σ, F, _, R, q, fun d ⟨i, e, q⟩ F' H' v g dk r => by
  subst e
  cases r
  exact ⟨i, rfl, k _ q F' H' g dk⟩⟩⟩
def cutG {α : Type} (xs : List α) (lo hi : Option Int) : List α := (xs.drop (HT.sIx xs.length 0 lo)).take (HT.sIx xs.length xs.length hi - HT.sIx xs.length 0 lo)
theorem Reps.cut {K : Kn} {F : Hp} {vs : List V} {ds : List D} (h : Reps K F vs ds) (lo hi : Option Int) : Reps K F (cutV vs lo hi) (cutG ds lo hi) := by
  unfold cutV cutG
  rw [h.length]
  exact (h.drop _).take _
def slD : D → Option Int → Option Int → (D → Prop) → Prop
  | .tup xs, lo, hi, Q => Q (.tup (cutG xs lo hi))
  | .lst xs, lo, hi, Q => Q (.lst (cutG xs lo hi))
  | .str z, lo, hi, Q => z.length ≤ sizeLine ∧ Q (.str (cutS z lo hi))
  | _, _, _, _ => False
def LSl (B : Bs) (K : Kn) (g : D → Option Int → Option Int → (D → Prop) → Prop) : V → Option Int → Option Int → Hp → VK → Prop := fun v lo hi H Q => ∃ F x Qd, Same F H ∧ DeckIn B.W F H ∧ RepB B.W K F H v x ∧ g x lo hi Qd ∧ Fin B K F H Qd Q
theorem slR_by {r' : V → Option Int → Option Int → Hp → VK → Prop} (w : ∀ v l h H Q, r' v l h H Q → ∃ r, SlR X r ∧ r v l h H Q) : SlR X r' := by
  intro pins s σ H x v vl vu lo hi sl Q I rx hs p1 p2 h
  obtain ⟨r, h1, h2⟩ := w _ _ _ _ _ h
  exact h1 pins s σ H x v vl vu lo hi sl Q I rx hs p1 p2 h2
theorem sIx_zero_full {α : Type} (xs : List α) (lo hi : Option Int) (h : HT.sIx xs.length 0 lo = 0 ∧ HT.sIx xs.length xs.length hi = xs.length) : cutG xs lo hi = xs := by
  unfold cutG
  rw [h.1, h.2]
  simp
theorem o_sl : SlR X (LSl B X.kn slD) := slR_by fun v lo hi H Q ⟨F, x, Qd, e, dk, r1, q, k⟩ => by
  unfold slD at q
  split at q
  · obtain ⟨a, vs, rfl, f1, h, s⟩ := r1.tup e
    refine ⟨_, sl_tupA, a, vs, rfl, h, fun z => ?_, fun z p hp => ?_⟩
    · rw [s.length] at z
      rw [sIx_zero_full _ _ _ z] at q
      exact k.here e dk q (.tup f1 s)
    · exact k.frz e dk q hp (.tup (SqT.of upd_same) ((s.cut _ _).mono (same_new (e.free hp))))
  · obtain ⟨a, vs, rfl, h, s⟩ := r1.lst e
    exact ⟨_, sl_list, a, vs, rfl, SqL.of h, fun p hp => k.frz e dk q hp (.lst upd_same ((s.cut _ _).mono (same_new (e.free hp))))⟩
  · exact ⟨_, sl_str, _, r1.str, q.1, k.here e dk q.2 (.str _)⟩
  · exact q.elim
@[simp] def gSl (g : D → Option Int → Option Int → (D → Prop) → Prop) (fa : GE) (fl fh : GO) (σ : List SV) (Q : D → Prop) : Prop := fa σ fun x => fl σ fun l => fh σ fun h => g x l h Q
theorem ed_sl {lo hi : Option Expr} {fl fh : GO} {p2 : Pos} (ha : BD B X a fa) (hl : OD B X lo fl) (hh : OD B X hi fh) : ED B X (.Subscript a (.Slice lo hi none p2) pos) (gSl slD fa fl fh) :=
  ⟨pe_imp (pe_slice o_sl ha.run hl.run hh.run) fun s H Q ⟨σ, F, Qd, R, q, k⟩ => ⟨σ, F, _, R, q, fun x qx F1 H1 v g1 d1 r1 => ⟨σ, F1, _, R.grow g1 d1, qx, fun l ql F2 H2 g2 d2 =>
    ⟨σ, F2, _, R.grow (g1.trans g2) d2, ql, fun h qh F3 H3 g3 d3 => ⟨F3, x, Qd, g3.fh, d3, (r1.grow g2).grow g3, qh, k.more ((g1.trans g2).trans g3)⟩⟩⟩⟩⟩
/-- a slice of a list, a new list of one's own -/
def slF : D → Option Int → Option Int → (List D → Prop) → Prop
  | .lst xs, lo, hi, Q => Q (cutG xs lo hi)
  | _, _, _, _ => False
def LSlF (B : Bs) (K : Kn) (g : D → Option Int → Option Int → (List D → Prop) → Prop) : V → Option Int → Option Int → Hp → VK → Prop := fun v lo hi H Q => ∃ F x Qd, Same F H ∧ DeckIn B.W F H ∧ RepB B.W K F H v x ∧ g x lo hi Qd ∧ FinF B K F H Qd Q
theorem o_slF : SlR X (LSlF B X.kn slF) := slR_by fun v lo hi H Q ⟨F, x, Qd, e, dk, r1, q, k⟩ => by
  unfold slF at q
  split at q
  · obtain ⟨a, vs, rfl, h, s⟩ := r1.lst e
    exact ⟨_, sl_list, a, vs, rfl, SqL.of h, fun p hp => k.laid e dk q hp (s.cut _ _)⟩
  · exact q.elim
@[simp] def gSlF (g : D → Option Int → Option Int → (List D → Prop) → Prop) (fa : GE) (fl fh : GO) (σ : List SV) (Q : List D → Prop) : Prop := fa σ fun x => fl σ fun l => fh σ fun h => g x l h Q
theorem fd_sl {lo hi : Option Expr} {fl fh : GO} {p2 : Pos} (ha : BD B X a fa) (hl : OD B X lo fl) (hh : OD B X hi fh) : FD B X (.Subscript a (.Slice lo hi none p2) pos) (gSlF slF fa fl fh) :=
  ⟨pe_imp (pe_slice o_slF ha.run hl.run hh.run) fun s H Q ⟨σ, F, Qd, R, q, k⟩ => ⟨σ, F, _, R, q, fun x qx F1 H1 v g1 d1 r1 => ⟨σ, F1, _, R.grow g1 d1, qx, fun l ql F2 H2 g2 d2 =>
    ⟨σ, F2, _, R.grow (g1.trans g2) d2, ql, fun h qh F3 H3 g3 d3 => ⟨F3, x, Qd, g3.fh, d3, (r1.grow g2).grow g3, qh, k.more ((g1.trans g2).trans g3)⟩⟩⟩⟩⟩
/-- xs[::-1] of a list -/
def unL (d : D) (Q : List D → Prop) : Prop := ∃ xs, d = .lst xs ∧ Q xs
@[simp] theorem unL_l (b : List D) (Q : List D → Prop) : unL (.lst b) Q ↔ Q b := ⟨fun ⟨_, e, q⟩ => by cases e; exact q, fun q => ⟨b, rfl, q⟩⟩
@[simp] def gRev (fa : GE) (σ : List SV) (Q : List D → Prop) : Prop := fa σ fun d => unL d fun xs => Q xs.reverse
theorem fd_rev {k : Nat} {p1 p2 p3 : Pos} (ha : BD B X a fa) : FD B X (.Subscript a (.Slice none none (some (.UnaryOp .USub (.Constant (.int 1) k p1) p2)) p3) pos) (gRev fa) :=
  ⟨pe_imp (pe_revL ha.run) fun s H Q ⟨σ, F, Qd, R, q, k⟩ => ⟨σ, F, _, R, q, fun d ⟨xs, e, qx⟩ F1 H1 v g1 d1 r1 => by
    subst e
    obtain ⟨a, vs, rfl, h, s⟩ := r1.lst g1.fh
    exact ⟨a, vs, rfl, SqL.of h, fun p hp => (k.more g1).laid g1.fh d1 qx hp s.reverse⟩⟩⟩
/-- list + list, list * n: new lists of one's own -/
def catF : D → D → (List D → Prop) → Prop
  | .lst xs, .lst ys, Q => xs.length + ys.length ≤ sizeLine ∧ Q (xs ++ ys)
  | _, _, _ => False
def repF : D → D → (List D → Prop) → Prop
  | .lst xs, .int k, Q => 0 ≤ k ∧ k < 2 ^ 63 ∧ xs.length * k.toNat ≤ sizeLine ∧ Q (List.replicate k.toNat xs).flatten
  | _, _, _ => False
def LOF (B : Bs) (K : Kn) (g : D → D → (List D → Prop) → Prop) : R2 := fun v u H Q => ∃ F x y Qd, Same F H ∧ DeckIn B.W F H ∧ RepB B.W K F H v x ∧ RepB B.W K F H u y ∧ g x y Qd ∧ FinF B K F H Qd Q
@[simp] def gBinF (g : D → D → (List D → Prop) → Prop) (fa fb : GE) (σ : List SV) (Q : List D → Prop) : Prop := fa σ fun x => fb σ fun y => g x y Q
theorem o_catF : OpR X (binaryOp .Add) (LOF B X.kn catF) := opR_by fun v u H Q ⟨F, x, y, Qd, e, dk, r1, r2, q, k⟩ => by
  unfold catF at q
  split at q
  · obtain ⟨a, vs, rfl, h1, s1⟩ := r1.lst e
    obtain ⟨b, us, rfl, h2, s2⟩ := r2.lst e
    exact ⟨_, op_cat, a, b, vs, us, rfl, rfl, h1, h2, by rw [s1.length, s2.length]; exact q.1, fun p hp => k.laid e dk q.2 hp (s1.append s2)⟩
  · exact q.elim
theorem o_repF : OpR X (binaryOp .Mult) (LOF B X.kn repF) := opR_by fun v u H Q ⟨F, x, y, Qd, e, dk, r1, r2, q, k⟩ => by
  unfold repF at q
  split at q
  · obtain ⟨a, vs, rfl, h1, s1⟩ := r1.lst e
    obtain ⟨q0, q1, q2, q3⟩ := q
    exact ⟨_, op_rep, a, _, vs, rfl, r2.int, h1, by omega, q1, by rw [s1.length]; exact q2, fun p hp => k.laid e dk q3 hp (s1.rep _)⟩
  · exact q.elim
theorem fd_bin {op : Operator} {g : D → D → (List D → Prop) → Prop} (ho : OpR X (binaryOp op) (LOF B X.kn g)) (ha : BD B X a fa) (hb : BD B X b fb) : FD B X (.BinOp a op b pos) (gBinF g fa fb) :=
  ⟨pe_imp (pe_op ho ha.run hb.run) fun s H Q ⟨σ, F, Qd, R, q, k⟩ => lb_two (Qd := fun x y => g x y Qd) R q fun x y F' H' v u q g' d r1 r2 => ⟨F', x, y, Qd, g'.fh, d, r1, r2, q, k.more g'⟩⟩
end
end ND

/-! ND4: what a def promises, by data; calls -/
namespace ND
open PySem PySem.Spec L2
open PyProof.Rows (envOfC)

/-- an error: its class's name, its attributes -/
structure Er where
  nm : Str
  fs : List (Str × D)
/-- the exception of the class c with the dict o -/
def RepEr (K : Kn) (F H : Hp) (c : Value) (o : Option Addr) (er : Er) : Prop :=
  K.mg er.nm = some c ∧ (er.fs ≠ [] → ∃ a vs, o = some a ∧ H a = some (.xd vs) ∧ RepFs K F vs er.fs) ∧ (er.fs = [] → o = none)
/-- what a def promises: the deck, the arguments, what is wanted of the answer, of an error -/
abbrev DSp := WD → List D → (D → Prop) → (Er → Prop) → Prop
def FinE (W : WT) (K : Kn) (F H : Hp) (Rd : Er → Prop) (E : XK) : Prop := ∀ er, Rd er → ∀ F' H' c o, Grow W F H F' H' → DeckIn W F' H' → RepEr K F' H' c o er → E c o H'
theorem FinE.more {W : WT} {K : Kn} {F H F' H' : Hp} {Rd : Er → Prop} {E : XK} (h : FinE W K F H Rd E) (g : Grow W F H F' H') : FinE W K F' H' Rd E := fun er q F2 H2 c o g2 d r => h er q F2 H2 c o (g.trans g2) d r
theorem FinE.none {W : WT} {K : Kn} {F H : Hp} : FinE W K F H (fun _ => False) E0 := fun _ q _ _ _ _ _ _ _ => q
def liftSp (K : Kn) (T : List (Addr × Str)) (sp : DSp) : Sp := fun vs H Q E => ∃ (W : WD) (F : Hp) (ds : List D) (Qd : D → Prop) (Rd : Er → Prop), Same F H ∧ DeckIn ⟨W, T⟩ F H ∧ Reps K F vs ds ∧ sp W ds Qd Rd ∧ Fin ⟨⟨W, T⟩, F, H⟩ K F H Qd Q ∧ FinE ⟨W, T⟩ K F H Rd E

/-- as FnOk, where nothing is being shown around -/
structure FnG (P : Program) (w : World) (K : PySem.W.Frag) (mg : Str → Option Value) (base : Heap) (k : Nat) (f : Addr) (fd : FuncData) (ps : List Str) (sp : Sp) : Prop where
  len : ∀ vs H Q E, sp vs H Q E → vs.length = ps.length
  run : ∀ (A : Around) (outer : List Env) (s : Shared) (H : Hp) (args : Args) (us : List Value) (vs : List V) (Q : VK) (E : XK), A.guards = some [] → Room k A → Env0 P w K mg base A outer s H → BindsTo s fd args (ps.zip us) → Vals vs us → sp vs H Q E →
    codeAny (model P w) A (.call (.ref f) args) (CR (L2.CX P w) outer P w H s Q E) s
theorem FnG.of {P : Program} {w : World} {K : PySem.W.Frag} {mg : Str → Option Value} {base : Heap} {k : Nat} {f : Addr} {fd : FuncData} {ps : List Str} {sp : Sp} (F : FnOk P w K mg base (L2.CX P w) k f fd ps sp) : FnG P w K mg base k f fd ps sp :=
  ⟨F.len, fun A outer s H args us vs Q E _ => F.run A outer s H args us vs Q E⟩
section
variable {P : Program} {w : World} {K : PySem.W.Frag} {mg : Str → Option Value} {base : Heap} {k : Nat} {f : Addr} {qual name : Str} {scope : Scope} {cdv : Value} {N ps : List Str}
/-- how a body ends is how its call ends -/
theorem ends_call {A : Around} {outer : List Env} {s z : Shared} {H : Hp} {E : XK} {Q : VK} : ∀ {fl : Flow}, SP (cxOf (L2.CX P w) P w K mg base N qual scope f cdv A outer s H E) [] { nx := fun _ G => Q .non G, rt := Q } fl z →
    match fl with | .ret u => CE outer P w H s Q u z | .next => CE outer P w H s Q .none z | _ => False
  | .next, ⟨_, G, I, q⟩ => ⟨.non, G, I.os, I.bare, I.base, I.hok, rfl, q⟩
  | .ret _, ⟨v, _, G, I, r, q⟩ => ⟨v, G, I.os, I.bare, I.base, I.hok, r, q⟩
  | .brk, ⟨_, _, _, q⟩ => q
  | .cont, ⟨_, _, _, q⟩ => q
theorem par_kinds (S : FnScope N ps scope) {us : List Value} {n : Nat} : ∀ y ∈ ps.zip us, scope.names.lookup y.1 = some .local ∨ (scope.names.lookup y.1 = some .cell ∧ ((cellsFrom n scope.names []).lookup y.1).isSome = true) :=
  fun y hy => (S.par y.1 (List.of_mem_zip (show (y.1, y.2) ∈ _ from hy)).1).imp id fun q => ⟨q, PySem.W.cellsFrom_some _ _ _ (.inl q)⟩
/-- a def by its body, where nothing is being shown around -/
theorem fn_ofG {params : Arguments} {body : List Stmt} {dV kV doc pm ct oc : Value} {an od : Option Addr} {osl : Array (Option Value)} {sp : Sp}
    (at_f : K.lookup f = some ⟨oc, od, .func (PySem.W.fnOf name qual params body scope dV kV doc pm an cdv ct), osl⟩) (code : PySem.W.codeIn K cdv qual = true) (S : FnScope N ps scope) (cnt : ∀ vs H Q E, sp vs H Q E → vs.length = ps.length)
    (walk : ∀ (A : Around) (outer : List Env) (s : Shared) (H : Hp) (vs : List V) (Q : VK) (E : XK), (A.deeper (envOfC qual scope s.heap.objs.size f cdv)).guards = some [] → Room k (A.deeper (envOfC qual scope s.heap.objs.size f cdv)) → sp vs H Q E →
      ∃ t, PSs (cxOf (L2.CX P w) P w K mg base N qual scope f cdv A outer s H E) body t ∧ t { nx := fun _ G => Q .non G, rt := Q } (start N vs) H) :
    FnG P w K mg base (k + 1) f (PySem.W.fnOf name qual params body scope dV kV doc pm an cdv ct) ps sp :=
  ⟨cnt, fun A outer s H args us vs Q E quiet room env bound vals want => by
    have stands : ∀ b o, base.get? b = some o → s.heap.get? b = some o := fun b o e => (env.bs b o e).1
    have inK := env.mod.kin.keeps stands
    obtain ⟨t, does, goal⟩ := walk A outer s H vs Q E quiet (room.deeper _) want
    exact codeAny_call_function room.depth (inK _ _ at_f) rfl S.co S.gen rfl (PySem.W.codeRec_of inK code) (bound _ _ _ _ (wpAny_newFunctionEnv_cells S.kind (par_kinds S) fun e same z entered => by
      cases same
      exact ⟨(env.mod.nolimit.keeps stands).keeps entered.toInCall.keep, codeAny_func (wpAny_mono (does.run [] z (start N vs) H _ (inv_start S room.hd env (cnt _ _ _ _ want) vals entered) goal)
        (fun fl z2 q => by
          have r := ends_call q
          cases fl <;> first | exact r | exact r.elim) fun _ _ q => q)⟩))⟩
end

/-! ### calls of a def of the module, by position -/
@[simp] def gCall (sp : DSp) (W : WD) (R : Er → Prop) (fs : GA) (σ : List SV) (Q : D → Prop) : Prop := fs σ fun ds => sp W ds Q R
section
variable {B : Bs} {X : Cx} {k : Nat} {f : Addr} {fd : FuncData} {ps : List Str} {sp : DSp} {R : Er → Prop} {E : XK} {x : Str} {p pos : Pos} {e : Expr} {es : List Expr} {fs : GA}
theorem la_call {s : L2.St} {σ : List SV} {F H : Hp} {Qd : D → Prop} {Q : VK} {K : Kn} (hE : FinE B.W K B.F B.H R E) (Rl : Rel B K σ s F H) (q : gCall sp B.W.p R fs σ Qd) (kf : Fin B K F H Qd Q) : LA B K fs s H fun vs H1 => liftSp K B.W.T sp (vs ++ []) H1 Q E :=
  ⟨σ, F, _, Rl, q, fun ds qds F1 H1 vs g1 d1 r1 => ⟨B.W.p, F1, ds, Qd, R, g1.fh, d1, by rw [List.append_nil]; exact r1, qds, fun d qd F2 H2 v g2 d2 r2 => kf d qd F2 H2 v (g1.trans g2) d2 r2, hE.more (Rl.base.trans g1)⟩⟩
theorem ed_call (G : FnOk X.prog X.w X.K X.mg X.base (L2.CX X.prog X.w) k f fd ps (liftSp X.kn B.W.T sp)) (hr : Room k X.A) (hg : Gl X x) (hm : X.mg x = some (.ref f)) (hk : PySem.W.keepIn X.K (.ref f) = true) (hb : Binds X.K fd ps []) (hx : Passes (L2.CX X.prog X.w) X E) (hE : FinE B.W X.kn B.F B.H R E)
    (ha : AD B X (e :: es) fs) (hdb : (x == ("__debug__" : Str)) = false := by decide) (he : starEach (e :: es) X.env = (false, eval e X.env) :: starEach es X.env := by rfl) (hpl : (backTo pos (starEach es X.env)).any (·.1) = false := by rfl) :
    ED B X (.Call (.Name x p) (e :: es) [] pos) (gCall sp B.W.p R fs) :=
  ⟨pe_imp (pe_call G hr hg hm hk hb .nil hx ha.run hdb he hpl) fun s H Q ⟨σ, F, Qd, Rl, q, kf⟩ => la_call hE Rl q kf⟩
theorem ed_call0 (G : FnOk X.prog X.w X.K X.mg X.base (L2.CX X.prog X.w) k f fd ps (liftSp X.kn B.W.T sp)) (hr : Room k X.A) (hg : Gl X x) (hm : X.mg x = some (.ref f)) (hk : PySem.W.keepIn X.K (.ref f) = true) (hb : Binds X.K fd ps []) (hx : Passes (L2.CX X.prog X.w) X E) (hE : FinE B.W X.kn B.F B.H R E)
    (hdb : (x == ("__debug__" : Str)) = false := by decide) : ED B X (.Call (.Name x p) [] [] pos) (gCall sp B.W.p R gNil) :=
  ⟨pe_imp (pe_call0 G hr hg hm hk hb .nil hx hdb) fun s H Q ⟨σ, F, Qd, Rl, q, kf⟩ => ⟨B.W.p, F, [], Qd, R, Rl.ex, Rl.deck, .nil, q, fun d qd F2 H2 v g2 d2 r2 => kf d qd F2 H2 v g2 d2 r2, hE.more Rl.base⟩⟩
/-- a call's end, back in the caller -/
theorem back_in {pins : List (Addr × Obj)} {σ : L2.St} {H : Hp} {s z : Shared} {Q : VK} (I : Inv X pins σ H s) (lets : Passes (L2.CX X.prog X.w) X E) : ∀ {r : Result}, CR (L2.CX X.prog X.w) X.stack X.prog X.w H s Q E r z →
    match r with | .ok (.ret u) => EP X pins σ Q u z | .ok _ => False | .error e => X.xe e z
  | .ok (.ret _), h => I.after h
  | .ok .next, h => h
  | .ok .brk, h => h
  | .ok .cont, h => h
  | .error _, h => lets _ _ _ _ _ _ I h
theorem pe_callG {sp : Sp} {t : TA} (F : FnG X.prog X.w X.K X.mg X.base k f fd ps sp) (quiet : X.A.guards = some []) (room : Room k X.A) (glob : Gl X x) (isf : X.mg x = some (.ref f)) (kept : PySem.W.keepIn X.K (.ref f) = true) (bind : Binds X.K fd ps []) (lets : Passes (L2.CX X.prog X.w) X E) (args : PA X (e :: es) t)
    (ndb : (x == ("__debug__" : Str)) = false := by decide) (star : starEach (e :: es) X.env = (false, eval e X.env) :: starEach es X.env := by rfl) (plain : (backTo pos (starEach es X.env)).any (·.1) = false := by rfl) :
    PE X (.Call (.Name x p) (e :: es) [] pos) (fun σ H Q => t σ H fun vs G => sp vs G Q E) :=
  ⟨fun pins s σ H Q I h => wpAny_Call_Name_kw (ld_glob I glob isf (PySem.W.callWith_K (h₀ := X.base) I.ok.mod.kin kept (thn (args.run pos pins s σ H _ I h) fun us z ⟨vs, G, J, vals, q⟩ => ⟨J.kIn, by
    have n : us.length = ps.length := (Vals.length vals).symm.trans (F.len _ _ _ _ q)
    have bd := bind z us J.kIn (by rw [List.append_nil]; exact n)
    rw [List.append_nil] at bd
    refine wpAny_call (codeAny_mono (F.run X.A X.stack z G ⟨us, []⟩ us vs Q E quiet room J.env0 bd vals q) fun r z2 o => ?_)
    have b := back_in J lets o
    rcases r with _ | fl
    · exact b
    · cases fl <;> first | exact b | exact b.elim⟩) star plain) ndb)⟩
theorem ed_callG (G : FnG X.prog X.w X.K X.mg X.base k f fd ps (liftSp X.kn B.W.T sp)) (hG : X.A.guards = some []) (hr : Room k X.A) (hg : Gl X x) (hm : X.mg x = some (.ref f)) (hk : PySem.W.keepIn X.K (.ref f) = true) (hb : Binds X.K fd ps []) (hx : Passes (L2.CX X.prog X.w) X E) (hE : FinE B.W X.kn B.F B.H R E)
    (ha : AD B X (e :: es) fs) (hdb : (x == ("__debug__" : Str)) = false := by decide) (he : starEach (e :: es) X.env = (false, eval e X.env) :: starEach es X.env := by rfl) (hpl : (backTo pos (starEach es X.env)).any (·.1) = false := by rfl) :
    ED B X (.Call (.Name x p) (e :: es) [] pos) (gCall sp B.W.p R fs) :=
  ⟨pe_imp (pe_callG G hG hr hg hm hk hb hx ha.run hdb he hpl) fun s H Q ⟨σ, F, Qd, Rl, q, kf⟩ => by
    have z := la_call (s := s) (Q := Q) hE Rl q kf
    simpa using z⟩

/-! ### by keywords: n positional values, m by keyword, put in the order pm -/
def permA {α : Type} (n m : Nat) (pm : List Nat) (us ws : List α) : List α := if us.length = n ∧ ws.length = m then pm.filterMap fun i => (us ++ ws)[i]? else []
theorem paired_app {α β : Type} {R : α → β → Prop} : ∀ {a c : List α} {b d : List β}, Paired R a b → Paired R c d → Paired R (a ++ c) (b ++ d)
  | _, _, _, _, .nil, h => h
  | _, _, _, _, .cons r t, h => .cons r (paired_app t h)
theorem paired_at {α β : Type} {R : α → β → Prop} : ∀ {a : List α} {b : List β} (i : Nat), Paired R a b → (a[i]? = none ∧ b[i]? = none) ∨ ∃ x y, a[i]? = some x ∧ b[i]? = some y ∧ R x y
  | _, _, _, .nil => .inl ⟨by simp, by simp⟩
  | _, _, 0, .cons r _ => .inr ⟨_, _, rfl, rfl, r⟩
  | _, _, i + 1, .cons _ t => by simpa using paired_at i t
theorem paired_pick {α β : Type} {R : α → β → Prop} {a : List α} {b : List β} (h : Paired R a b) : ∀ pm : List Nat, Paired R (pm.filterMap fun i => a[i]?) (pm.filterMap fun i => b[i]?)
  | [] => .nil
  | i :: pm => by
    rw [List.filterMap_cons, List.filterMap_cons]
    rcases paired_at i h with ⟨e1, e2⟩ | ⟨x, y, e1, e2, r⟩
    · rw [e1, e2]
      exact paired_pick h pm
    · rw [e1, e2]
      exact .cons r (paired_pick h pm)
theorem paired_len {α β : Type} {R : α → β → Prop} {a : List α} {b : List β} (h : Paired R a b) : a.length = b.length := Paired.length h
theorem paired_perm {α β : Type} {R : α → β → Prop} {n m : Nat} {pm : List Nat} {us ws : List α} {us' ws' : List β} (h : Paired R us us') (h' : Paired R ws ws') : Paired R (permA n m pm us ws) (permA n m pm us' ws') := by
  unfold permA
  rw [paired_len h, paired_len h']
  split
  · exact paired_pick (paired_app h h') pm
  · exact .nil
theorem Reps.pair {K : Kn} {F : Hp} : ∀ {vs : List V} {ds : List D}, Reps K F vs ds → Paired (Rep K F) vs ds
  | _, _, .nil => .nil
  | _, _, .cons r t => .cons r (Reps.pair t)
theorem Reps.of_pair {K : Kn} {F : Hp} : ∀ {vs : List V} {ds : List D}, Paired (Rep K F) vs ds → Reps K F vs ds
  | _, _, .nil => .nil
  | _, _, .cons r t => .cons r (Reps.of_pair t)
theorem kb_perm {K : PySem.W.Frag} {ks : List Str} {n m : Nat} {pm : List Nat} (hp : ps ≠ []) (h : ∀ us ws : List Value, us.length = n → ws.length = m → bindArgs fd ⟨us, ks.zip ws⟩ = pure (ps.zip (permA n m pm us ws))) : KBinds K fd ps ks (permA n m pm) (permA n m pm) :=
  ⟨fun s us ws _ hl => by
    have hc : us.length = n ∧ ws.length = m := by
      by_cases c : us.length = n ∧ ws.length = m
      · exact c
      · exfalso
        unfold permA at hl
        rw [if_neg c] at hl
        cases ps with
        | nil => exact hp rfl
        | cons _ _ => simp at hl
    exact .of_eq (h us ws hc.1 hc.2), fun r1 r2 => paired_perm r1 r2⟩
structure KD (B : Bs) (X : Cx) (kws : List Keyword) (f : GA) : Prop where
  run : PK X kws (LA B X.kn f)
theorem pk_imp {X : Cx} {kws : List Keyword} {t t' : TA} (h : PK X kws t) (w : ∀ s H Q, t' s H Q → t s H Q) : PK X kws t' := ⟨fun pos pins s σ H Q I q => h.run pos pins s σ H Q I (w _ _ _ q)⟩
theorem kd_nil : KD B X [] gNil := ⟨pk_imp pk_nil fun s H Q ⟨σ, F, Qd, R, q, k⟩ => k _ q F H _ (Grow.refl R.ex) R.deck .nil⟩
theorem kd_cons {nm : Option Str} {kpos : Pos} {kws : List Keyword} {fa : GE} (ha : ED B X e fa) (hr : KD B X kws fs) : KD B X (⟨nm, e, kpos⟩ :: kws) (gCons fa fs) :=
  ⟨pk_imp (pk_cons ha.run hr.run) fun s H Q ⟨σ, F, Qd, R, q, k⟩ => ⟨σ, F, _, R, q, fun d qd F1 H1 v g1 d1 r1 => ⟨σ, F1, _, R.grow g1 d1, qd, fun ds qds F2 H2 vs g2 d2 r2 => k _ qds F2 H2 _ (g1.trans g2) d2 (.cons (r1.mono g2.ff) r2)⟩⟩⟩
/-- f(e, .., k = v, ..) or f(k = v, ..) -/
@[simp] def gCallK (sp : DSp) (n m : Nat) (pm : List Nat) (W : WD) (R : Er → Prop) (fs fk : GA) (σ : List SV) (Q : D → Prop) : Prop := fs σ fun us => fk σ fun ws => sp W (permA n m pm us ws) Q R
variable {ks : List Str} {kws : List Keyword} {fk : GA} {n m : Nat} {pm : List Nat}
theorem pe_callK0 {sp : Sp} {gV : List V → List V → List V} {g : List Value → List Value → List Value} {tk : TA} (F : FnOk X.prog X.w X.K X.mg X.base (L2.CX X.prog X.w) k f fd ps sp) (room : Room k X.A) (glob : Gl X x) (isf : X.mg x = some (.ref f)) (kept : PySem.W.keepIn X.K (.ref f) = true)
    (bind : KBinds X.K fd ps ks g gV) (lets : Passes (L2.CX X.prog X.w) X E) (named : PK X kws tk) (each : (backToKw pos (keywordEach kws X.env)).all (·.1.isSome) = true := by rfl) (order : (backToKw pos (keywordEach kws X.env)).filterMap (·.1) = ks := by rfl) (ndb : (x == ("__debug__" : Str)) = false := by decide)
    (plain : ((backTo pos (starEach [] X.env)).any (·.1) || (backToKw pos (keywordEach kws X.env)).any (·.1.isNone)) = false := by rfl) : PE X (.Call (.Name x p) [] kws pos) (tCallK sp gV E tNil tk) :=
  ⟨fun pins s σ H Q I h => wpAny_Call_Name_kw (ld_glob I glob isf (PySem.W.callWith_KW0 (h₀ := X.base) I.ok.mod.kin kept each (thn (named.run pos pins s σ H _ I h) fun ws z ⟨zs, G, J, vals, q⟩ => ⟨J.kIn, order ▸ run_fnk (us := []) (vs := []) F room bind lets J .nil vals q⟩) plain) ndb)⟩
theorem la_callK {s : L2.St} {σ : List SV} {F H : Hp} {Qd : D → Prop} {Q : VK} {K : Kn} (hE : FinE B.W K B.F B.H R E) (Rl : Rel B K σ s F H) (q : gCallK sp n m pm B.W.p R fs fk σ Qd) (kf : Fin B K F H Qd Q) :
    LA B K fs s H fun vs H1 => LA B K fk s H1 fun zs H2 => liftSp K B.W.T sp (permA n m pm vs zs) H2 Q E :=
  ⟨σ, F, _, Rl, q, fun ds qds F1 H1 vs g1 d1 r1 => ⟨σ, F1, _, Rl.grow g1 d1, qds, fun zs qzs F2 H2 ws g2 d2 r2 => ⟨B.W.p, F2, _, Qd, R, g2.fh, d2, Reps.of_pair (paired_perm (r1.mono g2.ff).pair r2.pair), qzs,
    fun d qd F3 H3 v g3 d3 r3 => kf d qd F3 H3 v ((g1.trans g2).trans g3) d3 r3, hE.more ((Rl.base.trans g1).trans g2)⟩⟩⟩
theorem ed_callK (G : FnOk X.prog X.w X.K X.mg X.base (L2.CX X.prog X.w) k f fd ps (liftSp X.kn B.W.T sp)) (hr : Room k X.A) (hg : Gl X x) (hm : X.mg x = some (.ref f)) (hk : PySem.W.keepIn X.K (.ref f) = true) (hb : KBinds X.K fd ps ks (permA n m pm) (permA n m pm)) (hx : Passes (L2.CX X.prog X.w) X E) (hE : FinE B.W X.kn B.F B.H R E)
    (ha : AD B X (e :: es) fs) (hkw : KD B X kws fk) (hall : (backToKw pos (keywordEach kws X.env)).all (·.1.isSome) = true := by rfl) (hks : (backToKw pos (keywordEach kws X.env)).filterMap (·.1) = ks := by rfl)
    (hdb : (x == ("__debug__" : Str)) = false := by decide) (he : starEach (e :: es) X.env = (false, eval e X.env) :: starEach es X.env := by rfl)
    (hpl : ((backTo pos (starEach (e :: es) X.env)).any (·.1) || (backToKw pos (keywordEach kws X.env)).any (·.1.isNone)) = false := by rfl) :
    ED B X (.Call (.Name x p) (e :: es) kws pos) (gCallK sp n m pm B.W.p R fs fk) :=
  ⟨pe_imp (pe_callK G hr hg hm hk hb hx ha.run hkw.run hall hks hdb he hpl) fun s H Q ⟨σ, F, Qd, Rl, q, kf⟩ => la_callK hE Rl q kf⟩
theorem ed_callK0 (G : FnOk X.prog X.w X.K X.mg X.base (L2.CX X.prog X.w) k f fd ps (liftSp X.kn B.W.T sp)) (hr : Room k X.A) (hg : Gl X x) (hm : X.mg x = some (.ref f)) (hk : PySem.W.keepIn X.K (.ref f) = true) (hb : KBinds X.K fd ps ks (permA n m pm) (permA n m pm)) (hx : Passes (L2.CX X.prog X.w) X E) (hE : FinE B.W X.kn B.F B.H R E)
    (hkw : KD B X kws fk) (hall : (backToKw pos (keywordEach kws X.env)).all (·.1.isSome) = true := by rfl) (hks : (backToKw pos (keywordEach kws X.env)).filterMap (·.1) = ks := by rfl)
    (hdb : (x == ("__debug__" : Str)) = false := by decide)
    (hpl : ((backTo pos (starEach [] X.env)).any (·.1) || (backToKw pos (keywordEach kws X.env)).any (·.1.isNone)) = false := by rfl) :
    ED B X (.Call (.Name x p) [] kws pos) (gCallK sp n m pm B.W.p R gNil fk) :=
  ⟨pe_imp (pe_callK0 G hr hg hm hk hb hx hkw.run hall hks hdb hpl) fun s H Q ⟨σ, F, Qd, Rl, q, kf⟩ => ⟨σ, F, _, Rl, q, fun zs qzs F2 H2 ws g2 d2 r2 => ⟨B.W.p, F2, _, Qd, R, g2.fh, d2, Reps.of_pair (paired_perm .nil r2.pair), qzs,
    fun d qd F3 H3 v g3 d3 r3 => kf d qd F3 H3 v (g2.trans g3) d3 r3, hE.more (Rl.base.trans g2)⟩⟩⟩
end
end ND

/-! ND5: statements, loops -/
namespace ND
open PySem PySem.Spec L2
open PyProof.Rows (envOfC)

/-- what is wanted behind a statement, by data -/
structure Ed where
  nx : List SV → Prop
  rt : D → Prop
  bk : List SV → Prop
  ct : List SV → Prop
abbrev GS := Ed → List SV → Prop
structure EdOk (B : Bs) (K : Kn) (F : Hp) (E : Ed) (Dn : Ends) : Prop where
  nx : ∀ σ s F' H, Same F F' → Rel B K σ s F' H → E.nx σ → Dn.nx s H
  rt : ∀ d v F' H, Grow B.W B.F B.H F' H → DeckIn B.W F' H → Rep K F' v d → E.rt d → Dn.rt v H
  bk : ∀ σ s F' H, Same F F' → Rel B K σ s F' H → E.bk σ → Dn.bk s H
  ct : ∀ σ s F' H, Same F F' → Rel B K σ s F' H → E.ct σ → Dn.ct s H
def LS (B : Bs) (K : Kn) (g : GS) : TS := fun Dn s H => ∃ σ F E, Rel B K σ s F H ∧ g E σ ∧ EdOk B K F E Dn
structure SD (B : Bs) (X : Cx) (st : Stmt) (g : GS) : Prop where
  run : PS X st (LS B X.kn g)
structure SDs (B : Bs) (X : Cx) (sts : List Stmt) (g : GS) : Prop where
  run : PSs X sts (LS B X.kn g)
theorem EdOk.more {B : Bs} {K : Kn} {F F' : Hp} {E : Ed} {Dn : Ends} (h : EdOk B K F E Dn) (e : Same F F') : EdOk B K F' E Dn :=
  ⟨fun σ s F2 H a => h.nx σ s F2 H (e.trans a), h.rt, fun σ s F2 H a => h.bk σ s F2 H (e.trans a), fun σ s F2 H a => h.ct σ s F2 H (e.trans a)⟩
theorem ps_imp {X : Cx} {st : Stmt} {t t' : TS} (h : PS X st t) (w : ∀ Dn s H, t' Dn s H → t Dn s H) : PS X st t' := ⟨fun pins s σ H Dn I q => h.run pins s σ H Dn I (w _ _ _ q)⟩
theorem pss_imp {X : Cx} {st : List Stmt} {t t' : TS} (h : PSs X st t) (w : ∀ Dn s H, t' Dn s H → t Dn s H) : PSs X st t' := ⟨fun pins s σ H Dn I q => h.run pins s σ H Dn I (w _ _ _ q)⟩

@[simp] def gSkip (E : Ed) (σ : List SV) : Prop := E.nx σ
@[simp] def gSeq (g h : GS) (E : Ed) (σ : List SV) : Prop := g { E with nx := h E } σ
@[simp] def gDrop (fa : GE) (E : Ed) (σ : List SV) : Prop := fa σ fun _ => E.nx σ
@[simp] def gSet (i : Nat) (fa : GE) (E : Ed) (σ : List SV) : Prop := fa σ fun d => E.nx (σ.set i (.d d))
@[simp] def gSetL (i : Nat) (fa : GA) (E : Ed) (σ : List SV) : Prop := fa σ fun ds => E.nx (σ.set i (.ol ds))
@[simp] def gRet (fa : GE) (E : Ed) (σ : List SV) : Prop := fa σ E.rt
@[simp] def gRetN (E : Ed) (_ : List SV) : Prop := E.rt .non
@[simp] def gIfS (ft : GT) (g h : GS) (E : Ed) (σ : List SV) : Prop := ft σ fun b => iteB b (g E σ) (h E σ)
@[simp] def gBrk (E : Ed) (σ : List SV) : Prop := E.bk σ
@[simp] def gCnt (E : Ed) (σ : List SV) : Prop := E.ct σ
@[simp] def gNever (_ : Ed) (_ : List SV) : Prop := False
/-- a slot of one's own becomes data -/
def fz (i : Nat) (σ : List SV) : List SV := match σ[i]? with
  | some (.ol xs) => σ.set i (.d (.lst xs))
  | some (.od ks) => σ.set i (.d (.dic ks))
  | _ => σ
def gFz (i : Nat) (g : GS) : GS := fun E σ => g E (fz i σ)

section
variable {B : Bs} {X : Cx} {e a b c : Expr} {es : List Expr} {fa fb : GE} {fs : GA} {ft : GT} {g h : GS} {pos : Pos} {st : Stmt} {rest sts sts' : List Stmt}
theorem sds_nil : SDs B X [] gSkip := ⟨pss_imp pss_nil fun Dn s H ⟨σ, F, E, R, q, k⟩ => k.nx σ s F H (Same.refl F) R q⟩
theorem sds_cons (h1 : SD B X st g) (h2 : SDs B X rest h) : SDs B X (st :: rest) (gSeq g h) :=
  ⟨pss_imp (pss_cons h1.run h2.run) fun Dn s H ⟨σ, F, E, R, q, k⟩ => ⟨σ, F, { E with nx := h E }, R, q, ⟨fun σ' s' F' H' e R' q' => ⟨σ', F', E, R', q', k.more e⟩, k.rt, k.bk, k.ct⟩⟩⟩
theorem sds_one (h1 : SD B X st g) : SDs B X [st] g := ⟨pss_one h1.run⟩
theorem sd_pass : SD B X (.Pass pos) gSkip := ⟨ps_imp ps_pass fun Dn s H ⟨σ, F, E, R, q, k⟩ => k.nx σ s F H (Same.refl F) R q⟩
theorem sd_break : SD B X (.Break pos) gBrk := ⟨ps_imp ps_break fun Dn s H ⟨σ, F, E, R, q, k⟩ => k.bk σ s F H (Same.refl F) R q⟩
theorem sd_continue : SD B X (.Continue pos) gCnt := ⟨ps_imp ps_continue fun Dn s H ⟨σ, F, E, R, q, k⟩ => k.ct σ s F H (Same.refl F) R q⟩
theorem sd_never : SD B X st gNever := ⟨⟨fun _ _ _ _ _ _ ⟨_, _, _, _, q, _⟩ => q.elim⟩⟩
theorem sd_drop (ha : BD B X e fa) (hs : swapsWith e none pos.line X.env = pure false := by rfl) : SD B X (.Expr e pos) (gDrop fa) :=
  ⟨ps_imp (ps_expr ha.run hs) fun Dn s H ⟨σ, F, E, R, q, k⟩ => ⟨σ, F, _, R, q, fun d qd F' H' v g dk r => k.nx σ s F' H' g.ff (R.grow g dk) qd⟩⟩
theorem sd_set {i : Nat} {x : Str} {pos' : Pos} (hN : X.N.Nodup) (hi : X.N[i]? = some x) (hx : Loc X.env.scope x) (ha : ED B X e fa) (hs : swapsWith e (some (.Name x pos')) pos.line X.env = pure false := by rfl) (hf : X.fn x = true ∨ X.env.scope.names.lookup x = some .local := by first | exact .inl rfl | exact .inr rfl | assumption) :
    SD B X (.Assign [.Name x pos'] e pos) (gSet i fa) :=
  ⟨ps_imp (ps_set hN hi hx ha.run hs hf) fun Dn s H ⟨σ, F, E, R, q, k⟩ => ⟨σ, F, _, R, q, fun d qd F' H' v g dk r => k.nx _ _ F' H' g.ff ((R.grow g dk).set r) qd⟩⟩
theorem sd_setL {i : Nat} {x : Str} {pos' : Pos} (hN : X.N.Nodup) (hi : X.N[i]? = some x) (hx : Loc X.env.scope x) (ha : FD B X e fs) (hs : swapsWith e (some (.Name x pos')) pos.line X.env = pure false := by rfl) (hf : X.fn x = true ∨ X.env.scope.names.lookup x = some .local := by first | exact .inl rfl | exact .inr rfl | assumption) :
    SD B X (.Assign [.Name x pos'] e pos) (gSetL i fs) :=
  ⟨ps_imp (ps_set hN hi hx ha.run hs hf) fun Dn s H ⟨σ, F, E, R, q, k⟩ => ⟨σ, F, _, R, q, fun ds qd F' H' p vs g dk hp fp ep r => k.nx _ _ F' H' g.ff (R.setNew (x := .ol ds) g dk hp fp ⟨rfl, vs, ep, r⟩) qd⟩⟩
theorem sd_ret (ha : ED B X e fa) : SD B X (.Return (some e) pos) (gRet fa) :=
  ⟨ps_imp (ps_ret ha.run) fun Dn s H ⟨σ, F, E, R, q, k⟩ => ⟨σ, F, _, R, q, fun d qd F' H' v g dk r => k.rt d v F' H' (R.base.trans g) dk r qd⟩⟩
theorem sd_retN : SD B X (.Return none pos) gRetN := ⟨ps_imp ps_retN fun Dn s H ⟨σ, F, E, R, q, k⟩ => k.rt .non _ F H R.base R.deck .non q⟩
theorem sd_if (hc : TD B X c ft) (h1 : SDs B X sts g) (h2 : SDs B X sts' h) : SD B X (.If c sts sts' pos) (gIfS ft g h) :=
  ⟨ps_imp (ps_if hc.run h1.run h2.run) fun Dn s H ⟨σ, F, E, R, q, k⟩ => ⟨σ, F, _, R, q, fun d qd F' H' g dk => by
    cases d with
    | true => exact ⟨σ, F', E, R.grow g dk, qd, k.more g.ff⟩
    | false => exact ⟨σ, F', E, R.grow g dk, qd, k.more g.ff⟩⟩⟩
theorem ls_fz {K : Kn} {i : Nat} {Dn : Ends} {s : L2.St} {H : Hp} (h : LS B K (gFz i g) Dn s H) : LS B K g Dn s H := by
  obtain ⟨σ, F, E, R, q, k⟩ := h
  unfold gFz fz at q
  split at q
  · rename_i xs e
    obtain ⟨a, vs, h1, h2, h3, h4, h5, h6⟩ := R.ownL e
    exact ⟨_, upd F a (.lst vs), E, R.freeze e h1 h2 h5 h6 h4 (.inl ⟨_, rfl⟩) (.lst upd_same (h3.mono (same_new h5))), q, k.more (same_new h5)⟩
  · rename_i xs e
    obtain ⟨a, vs, h1, h2, h3, h4, h5, h6⟩ := R.ownD e
    exact ⟨_, upd F a (.dK vs), E, R.freeze e h1 h2 h5 h6 h4 (.inr (.inl ⟨_, rfl⟩)) (.dic upd_same (h3.mono (same_new h5))), q, k.more (same_new h5)⟩
  · exact ⟨σ, F, E, R, q, k⟩
theorem sd_fz (i : Nat) (h : SD B X st g) : SD B X st (gFz i g) := ⟨ps_imp h.run fun _ _ _ q => ls_fz q⟩

/-! ### several targets -/
/-- the slots is take the data ds -/
@[simp] def setAll : List Nat → List D → List SV → List SV
  | i :: is, d :: ds, σ => setAll is ds (σ.set i (.d d))
  | _, _, σ => σ
def setAllV : List Nat → List V → L2.St → L2.St
  | i :: is, v :: vs, s => setAllV is vs (s.set i (some v))
  | _, _, s => s
theorem Rel.sets {K : Kn} {F H : Hp} : ∀ {is : List Nat} {ds : List D} {vs : List V} {σ : List SV} {s : L2.St}, Rel B K σ s F H → Reps K F vs ds → Rel B K (setAll is ds σ) (setAllV is vs s) F H
  | [], ds, vs, σ, s, R, h => by
    cases ds <;> cases vs <;> exact R
  | i :: is, [], vs, σ, s, R, h => by
    cases h
    exact R
  | i :: is, d :: ds, vs, σ, s, R, h => by
    cases h with
    | @cons v vs _ _ r t =>
      show Rel B K (ND.setAll is ds (σ.set i (.d d))) (setAllV is vs (s.set i (some v))) F H
      exact Rel.sets (R.set r) t
def unT (n : Nat) (d : D) (Q : List D → Prop) : Prop := ∃ ds, d = .tup ds ∧ ds.length = n ∧ Q ds
@[simp] theorem unT_t (n : Nat) (b : List D) (Q : List D → Prop) : unT n (.tup b) Q ↔ b.length = n ∧ Q b := ⟨fun ⟨_, e, q⟩ => by cases e; exact q, fun q => ⟨b, rfl, q⟩⟩
@[simp] def gSetT (is : List Nat) (fa : GE) (E : Ed) (σ : List SV) : Prop := fa σ fun d => unT is.length d fun ds => E.nx (setAll is ds σ)
/-- targets: names in the slots is -/
structure NamesAt (X : Cx) (ts : List Expr) (is : List Nat) : Prop where
  run : PGs X ts fun vs σ H Q => vs.length = is.length ∧ Q (setAllV is vs σ) H
theorem na_nil : NamesAt X [] [] := ⟨⟨fun pins s σ H vs us Q I r h => by
  obtain ⟨h1, h2⟩ := h
  cases vs with
  | nil => exact pgs_nil.run pins s σ H [] us Q I r ⟨rfl, h2⟩
  | cons _ _ => simp at h1⟩⟩
theorem na_cons {i : Nat} {is : List Nat} {t : Expr} {ts : List Expr} (h1 : PG X t (gName i)) (h2 : NamesAt X ts is) (hs : (assignEach (t :: ts) X.env).map (·.2) = assign t X.env :: (assignEach ts X.env).map (·.2) := by rfl) : NamesAt X (t :: ts) (i :: is) := ⟨⟨fun pins s σ H vs us Q I r h => by
  obtain ⟨hl, hq⟩ := h
  cases vs with
  | nil => simp at hl
  | cons v vs => exact (pgs_cons h1 h2.run hs).run pins s σ H _ us Q I r ⟨v, vs, rfl, by simpa using hl, hq⟩⟩⟩
theorem sd_setT {is : List Nat} {ts : List Expr} {kt : Nat} {pt : Pos} (hc : X.calm = true) (hn : NamesAt X ts is) (ha : ED B X e fa) (hs : swapsWithSole [.Tuple ts kt pt] e pos.line X.env = pure false := by rfl) (hw : swappedStores [.Tuple ts kt pt] e X.env = pure none := by rfl)
    (h1 : (assignEach [.Tuple ts kt pt] X.env).map (·.2) = [assign (.Tuple ts kt pt) X.env] := by rfl) (hl : (assignEach ts X.env).length = is.length := by rfl) (hst : (assignEach ts X.env).findIdx? (·.1) = none := by rfl) :
    SD B X (.Assign [.Tuple ts kt pt] e pos) (gSetT is fa) :=
  ⟨ps_imp (ps_asg ha.run (pg_tup hc hn.run hl hst) hs hw h1) fun Dn s H ⟨σ, F, E, R, q, k⟩ => ⟨σ, F, _, R, q, fun d ⟨ds, e, hl, qd⟩ F' H' v g dk r => by
    subst e
    cases r with
    | tup h r => exact ⟨_, _, rfl, same_t g.fh h, by rw [r.length]; exact hl, by rw [r.length]; exact hl, k.nx _ _ F' H' g.ff ((R.grow g dk).sets r) qd⟩⟩⟩
/-- a, b = x, y with plain local names -/
@[simp] def gPar (is : List Nat) (fs : GA) (E : Ed) (σ : List SV) : Prop := fs σ fun ds => ds.length = is.length ∧ E.nx (setAll is ds σ)
theorem sd_par2 {i j : Nat} {x y : Str} {px py pt : Pos} {kt k2 pt2} (hc : X.calm = true) (hN : X.N.Nodup) (hi : X.N[i]? = some x) (hj : X.N[j]? = some y) (hij : i ≠ j)
    (hx : X.env.scope.names.lookup x = some .local) (hy : X.env.scope.names.lookup y = some .local) (ha : AD B X [a, b] fs)
    (hw : swappedStores [.Tuple [.Name x px, .Name y py] kt pt] (.Tuple [a, b] k2 pt2) X.env = pure (some [x, y]))
    (hs : swapsWithSole [.Tuple [.Name x px, .Name y py] kt pt] (.Tuple [a, b] k2 pt2) pos.line X.env = pure false := by rfl) :
    SD B X (.Assign [.Tuple [.Name x px, .Name y py] kt pt] (.Tuple [a, b] k2 pt2) pos) (gPar [i, j] fs) :=
  ⟨ps_imp (ps_par hc hN hi hj hij hx hy ha.run hw hs) fun Dn s H ⟨σ, F, E, R, q, k⟩ => ⟨σ, F, _, R, q, fun ds ⟨hl, qd⟩ F' H' vs g dk r => by
    have R2 := (R.grow g dk).sets (is := [i, j]) r
    cases r with
    | nil => simp at hl
    | cons r1 r =>
      cases r with
      | nil => simp at hl
      | cons r2 r =>
        cases r with
        | cons _ _ => simp at hl
        | nil => exact ⟨_, _, rfl, k.nx _ _ F' H' g.ff R2 qd⟩⟩⟩
theorem sd_par3 {i j l : Nat} {x y z : Str} {px py pz pt : Pos} {kt k2 pt2} (hc : X.calm = true) (hN : X.N.Nodup) (hi : X.N[i]? = some x) (hj : X.N[j]? = some y) (hl : X.N[l]? = some z) (hij : i ≠ j) (hil : i ≠ l) (hjl : j ≠ l)
    (hx : X.env.scope.names.lookup x = some .local) (hy : X.env.scope.names.lookup y = some .local) (hz : X.env.scope.names.lookup z = some .local) (ha : AD B X [a, b, c] fs)
    (hw : swappedStores [.Tuple [.Name x px, .Name y py, .Name z pz] kt pt] (.Tuple [a, b, c] k2 pt2) X.env = pure (some [x, y, z]))
    (hs : swapsWithSole [.Tuple [.Name x px, .Name y py, .Name z pz] kt pt] (.Tuple [a, b, c] k2 pt2) pos.line X.env = pure false := by rfl) :
    SD B X (.Assign [.Tuple [.Name x px, .Name y py, .Name z pz] kt pt] (.Tuple [a, b, c] k2 pt2) pos) (gPar [i, j, l] fs) :=
  ⟨ps_imp (ps_par3 hc hN hi hj hl hij hil hjl hx hy hz ha.run hw hs) fun Dn s H ⟨σ, F, E, R, q, k⟩ => ⟨σ, F, _, R, q, fun ds ⟨hl, qd⟩ F' H' vs g dk r => by
    have R2 := (R.grow g dk).sets (is := [i, j, l]) r
    cases r with
    | nil => simp at hl
    | cons r1 r =>
      cases r with
      | nil => simp at hl
      | cons r2 r =>
        cases r with
        | nil => simp at hl
        | cons r3 r =>
          cases r with
          | cons _ _ => simp at hl
          | nil => exact ⟨_, _, _, rfl, k.nx _ _ F' H' g.ff R2 qd⟩⟩⟩

/-! ### x op= e; xs[i] = e; xs.append(e) -/
def gAug (i : Nat) (gop : D → D → (D → Prop) → Prop) (fa : GE) : GS := fun E σ => ∃ x, σ[i]? = some (.d x) ∧ fa σ fun y => gop x y fun z => E.nx (σ.set i (.d z))
theorem sd_aug {i : Nat} {x : Str} {op : Operator} {gop : D → D → (D → Prop) → Prop} {pos' : Pos} (hN : X.N.Nodup) (hi : X.N[i]? = some x) (hx : Loc X.env.scope x) (ha : BD B X e fa) (ho : OpR X (inplaceOp op) (LO2 B X.kn gop)) (hf : X.fn x = true ∨ X.env.scope.names.lookup x = some .local := by first | exact .inl rfl | exact .inr rfl | assumption) :
    SD B X (.AugAssign (.Name x pos') op e pos) (gAug i gop fa) :=
  ⟨ps_imp (ps_aug hN hi hx ha.run (ti := LO2 B X.kn gop) ho hf) fun Dn s H ⟨σ, F, E, R, ⟨y, e1, q⟩, k⟩ => by
    obtain ⟨v, h1, h2⟩ := R.dat e1
    exact ⟨v, h1, σ, F, _, R, q, fun d qd F' H' u g dk r => ⟨F', y, d, _, g.fh, dk, .inl (h2.mono g.ff), r, qd, fun z qz F2 H2 w g2 dk2 r2 => k.nx _ _ F2 H2 (g.ff.trans g2.ff) ((R.grow (g.trans g2) dk2).set r2) qz⟩⟩⟩
def iaddD : D → D → (D → Prop) → Prop
  | .int i, .int j, Q => Q (.int (i + j))
  | .str i, .str j, Q => i.length + j.length ≤ sizeLine ∧ Q (.str (i ++ j))
  | _, _, _ => False
theorem o_iadd : OpR X (inplaceOp .Add) (LO2 B X.kn iaddD) := opR_by fun v u H Q ⟨F, x, y, Qd, e, dk, r1, r2, q, k⟩ => by
  unfold iaddD at q
  split at q
  · exact ⟨_, iop_add, _, _, r1.int, r2.int, k.here e dk q (.int _)⟩
  · exact ⟨_, iop_add_str, _, _, r1.str, r2.str, q.1, k.here e dk q.2 (.str _)⟩
  · exact q.elim
theorem o_isub : OpR X (inplaceOp .Sub) (LO2 B X.kn subD) := opR_by fun v u H Q ⟨F, x, y, Qd, e, dk, r1, r2, q, k⟩ => by
  unfold subD at q
  split at q
  · exact ⟨_, iop_sub, _, _, r1.int, r2.int, k.here e dk q (.int _)⟩
  · exact q.elim
/-- xs[i] = e, xs of one's own -/
def gSetI (k : Nat) (fe fi : GE) : GS := fun E σ => ∃ xs, σ[k]? = some (.ol xs) ∧ fe σ fun x => fi σ fun d => ∃ i j, d = .int i ∧ ixN xs.length i = some j ∧ E.nx (σ.set k (.ol (xs.set j x)))
theorem sd_setI {k : Nat} {x : Str} {i : Expr} {px pt : Pos} {fe fi : GE} (hv : PE X (.Name x px) (tVar k)) (he : ED B X e fe) (hi : BD B X i fi) (hs : swapsWithSole [.Subscript (.Name x px) i pt] e pos.line X.env = pure false := by rfl) (hw : swappedStores [.Subscript (.Name x px) i pt] e X.env = pure none := by rfl)
    (h1 : (assignEach [.Subscript (.Name x px) i pt] X.env).map (·.2) = [assign (.Subscript (.Name x px) i pt) X.env] := by rfl)
    (ha : ∀ v, assign (.Subscript (.Name x px) i pt) X.env v = (do
      let ov ← holding [v] (eval (.Name x px) X.env)
      let iv ← holding [v, ov] (eval i X.env)
      standAt pt
      holding [v, ov, iv] (setItem ov iv v)
      release [v, ov, iv] []) := by intro _; rfl) : SD B X (.Assign [.Subscript (.Name x px) i pt] e pos) (gSetI k fe fi) :=
  ⟨ps_imp (ps_asg he.run (pg_sub hv hi.run set_list ha) hs hw h1) fun Dn s H ⟨σ, F, E, R, ⟨xs, eo, q⟩, kk⟩ => by
    obtain ⟨a, _, s1, _⟩ := R.ownL eo
    exact ⟨σ, F, _, R, q, fun d qd F1 H1 v g1 d1 r1 => ⟨.ref a, s1, σ, F1, _, R.grow g1 d1, qd, fun d2 ⟨i, j, e2, hj, qn⟩ F2 H2 u g2 dk2 r2 => by
      subst e2
      have R2 := R.grow (g1.trans g2) dk2
      obtain ⟨a', vs, s2, h2, h3, h4, h5, h6⟩ := R2.ownL eo
      rw [s1] at s2
      cases s2
      refine ⟨a, vs, i, j, rfl, r2.int, h2, by rw [h3.length]; exact hj, ?_⟩
      exact kk.nx _ _ F2 _ (g1.ff.trans g2.ff) (R2.write eo (.inl ⟨_, rfl⟩) s1 (x := .ol (xs.set j d)) ⟨rfl, _, upd_same, h3.set (r1.mono g2.ff) j⟩) qn⟩⟩⟩
/-- xs[i] op= e, ints -/
theorem getItem_lst {X : Cx} : PGet X (rIxL X.K) := fun pins s σ H o i ov iv Q I eo ei ⟨a, xs, k, z, ea, ek, stands, found, q⟩ => by
  subst ea ek
  obtain ⟨t, rfl⟩ := ei
  cases eo
  obtain ⟨its, same, plain, _⟩ := I.list stands
  obtain ⟨j, place, item, _, low, high⟩ := atI_get found
  obtain ⟨w, ew, is⟩ := same.get item
  have cnt := same.length
  have top := line63
  have at_j : its.toArray[j]? = some w := by simpa using ew
  rcases Int.lt_or_le k 0 with neg | pos
  · rw [seqIndex_neg neg low] at place
    have e : (k + (its.toArray.size : Int)).toNat = j := by
      rw [List.size_toArray, ← cnt]
      exact Option.some.inj place
    exact wpAny_getItem_list_neg plain.isList neg (by rw [List.size_toArray] <;> omega) (by omega) (e ▸ at_j) ⟨z, H, I, is, q⟩
  · rw [seqIndex_of pos high] at place
    exact wpAny_getItem_list plain.isList pos (by omega) (Option.some.inj place ▸ at_j) ⟨z, H, I, is, q⟩
def gAugI (k : Nat) (gop : D → D → (D → Prop) → Prop) (fi fe : GE) : GS := fun E σ => ∃ xs, σ[k]? = some (.ol xs) ∧ fi σ fun d => ∃ i j x, d = .int i ∧ ixN xs.length i = some j ∧ xs[j]? = some x ∧ fe σ fun y => gop x y fun z => E.nx (σ.set k (.ol (xs.set j z)))
theorem sd_augI {k : Nat} {x : Str} {i : Expr} {op : Operator} {gop : D → D → (D → Prop) → Prop} {px pt : Pos} {fe fi : GE} (hv : PE X (.Name x px) (tVar k)) (hi : BD B X i fi) (he : BD B X e fe) (ho : OpR X (inplaceOp op) (LO2 B X.kn gop))
    (ha : ∀ ov iv new, augStore i ov iv new = (do holding [new, ov, iv] (setItem ov iv new); release [new, ov, iv] []; pure .next) := by intros; rfl) : SD B X (.AugAssign (.Subscript (.Name x px) i pt) op e pos) (gAugI k gop fi fe) :=
  ⟨ps_imp (ps_augS hv hi.run getItem_lst he.run (tip := LO2 B X.kn gop) ho set_list ha) fun Dn s H ⟨σ, F, E, R, ⟨xs, eo, q⟩, kk⟩ => by
    obtain ⟨a, _, s1, _⟩ := R.ownL eo
    refine ⟨.ref a, s1, σ, F, _, R, q, fun d1 ⟨i, j, z, e1, hj, hz, q1⟩ F1 H1 u g1 d1 r1 => ?_⟩
    subst e1
    have R1 := R.grow g1 d1
    obtain ⟨a', vs, s2, h2, h3, h4, h5, h6⟩ := R1.ownL eo
    rw [s1] at s2
    cases s2
    obtain ⟨zv, hzv, rz⟩ := h3.get hz
    have hat : L2.atI vs i = some zv := by
      unfold L2.atI
      rw [h3.length, hj]
      exact hzv
    refine ⟨a, vs, i, zv, rfl, r1.int, SqL.of h2, hat, σ, F1, _, R1, q1, fun y qy F2 H2 w g2 dk2 r2 => ?_⟩
    refine ⟨F2, z, y, _, g2.fh, dk2, .inl (rz.mono g2.ff), r2, qy, fun z' qz F3 H3 w3 g3 dk3 r3 => ?_⟩
    have R3 := R1.grow (g2.trans g3) dk3
    obtain ⟨a', vs3, s3, k2, k3, k4, k5, k6⟩ := R3.ownL eo
    rw [s1] at s3
    cases s3
    refine ⟨a, vs3, i, j, rfl, r1.int, k2, by rw [k3.length]; exact hj, ?_⟩
    exact kk.nx _ _ F3 _ ((g1.ff.trans g2.ff).trans g3.ff) (R3.write eo (.inl ⟨_, rfl⟩) s1 (x := .ol (xs.set j z')) ⟨rfl, _, upd_same, k3.set r3 j⟩) qz⟩
/-- xs.append(e) -/
def gApp (k : Nat) (fe : GE) : GS := fun E σ => ∃ xs, σ[k]? = some (.ol xs) ∧ fe σ fun x => xs.length < sizeLine ∧ E.nx (σ.set k (.ol (xs ++ [x])))
theorem sd_app {k : Nat} {x : Str} {px apos cpos : Pos} {fe : GE} (h : PE X (.Call (.Attribute (.Name x px) "append" apos) [e] [] cpos) (tBM X.K "list" rAppend (tVar k) (tCons (LE B X.kn fe) tNil))) (hs : swapsWith (.Call (.Attribute (.Name x px) "append" apos) [e] [] cpos) none pos.line X.env = pure false := by rfl) :
    SD B X (.Expr (.Call (.Attribute (.Name x px) "append" apos) [e] [] cpos) pos) (gApp k fe) :=
  ⟨ps_imp (ps_expr h hs) fun Dn s H ⟨σ, F, E, R, ⟨xs, eo, q⟩, kk⟩ => by
    obtain ⟨a, _, s1, h1, _⟩ := R.ownL eo
    refine ⟨.ref a, s1, .inl ⟨rfl, _, .inl (.inl h1)⟩, σ, F, _, R, q, fun d ⟨hz, qd⟩ F1 H1 v g1 d1 r1 => ?_⟩
    have R1 := R.grow g1 d1
    obtain ⟨a', vs, s2, h2, h3, h4, h5, h6⟩ := R1.ownL eo
    rw [s1] at s2
    cases s2
    exact ⟨a, vs, v, rfl, rfl, h2, by rw [h3.length]; exact hz, kk.nx _ _ F1 _ g1.ff (R1.write eo (.inl ⟨_, rfl⟩) s1 (x := .ol (xs ++ [d])) ⟨rfl, _, upd_same, h3.append (.cons r1 .nil)⟩) qd⟩⟩

/-! ### while -/
/-- an invariant with a measure -/
def gWhile (ft : GT) (g : GS) : GS := fun E σ => ∃ I : Nat → List SV → Prop, (∃ m, I m σ) ∧ ∀ m σ', I m σ' → ft σ' fun b => if b = true then g { E with nx := fun σ2 => ∃ m', m' < m ∧ I m' σ2, ct := fun σ2 => ∃ m', m' < m ∧ I m' σ2, bk := E.nx } σ' else E.nx σ'
theorem sd_while (hp : PassesOwn (model X.prog X.w) X.A X.env X.xe) (hc : TD B X c ft) (hb : SDs B X sts g) : SD B X (.While c sts [] pos) (gWhile ft g) :=
  ⟨ps_imp (ps_while hp hc.run hb.run) fun Dn s H ⟨σ, F, E, R, ⟨I, ⟨m0, h0⟩, q⟩, kk⟩ => by
    refine ⟨fun m s' H' => ∃ σ' F', Same F F' ∧ Rel B X.kn σ' s' F' H' ∧ I m σ', ⟨m0, σ, F, Same.refl F, R, h0⟩, ?_⟩
    rintro m s' H' ⟨σ', F', e', R', i'⟩
    refine ⟨σ', F', _, R', q m σ' i', fun b qb F2 H2 g2 dk2 => ?_⟩
    have R2 := R'.grow g2 dk2
    cases b with
    | true =>
      refine ⟨fun s3 H3 => ∃ σ3 F3, Same F F3 ∧ Rel B X.kn σ3 s3 F3 H3 ∧ ∃ m', m' < m ∧ I m' σ3, ?_, σ', F2, _, R2, qb, ?_⟩
      · rintro s3 H3 ⟨σ3, F3, e3, R3, m', hm, i3⟩
        exact ⟨m', hm, σ3, F3, e3, R3, i3⟩
      · have eF := e'.trans g2.ff
        exact ⟨fun σ3 s3 F3 H3 a r q3 => ⟨σ3, F3, eF.trans a, r, q3⟩, kk.rt, fun σ3 s3 F3 H3 a r q3 => kk.nx σ3 s3 F3 H3 (eF.trans a) r q3, fun σ3 s3 F3 H3 a r q3 => ⟨σ3, F3, eF.trans a, r, q3⟩⟩
    | false => exact kk.nx σ' s' F2 H2 (e'.trans g2.ff) R2 qb⟩

/-! ### for -/
/-- J gives the items ds -/
structure ItOk (B : Bs) (K : Kn) (J : It) (ds : List D) (F : Hp) : Prop where
  go : ∀ (F' H' : Hp) i d, Same F F' → Same F' H' → DeckIn B.W F' H' → ds[i]? = some d → J.go i H' ∧ ∀ x H'', J.yld i H' x H'' → ∃ F'', Grow B.W F' H' F'' H'' ∧ DeckIn B.W F'' H'' ∧ Rep K F'' x d
  stop : ∀ (F' H' : Hp) i, Same F F' → Same F' H' → ds.length ≤ i → J.stop i H'
def LI (B : Bs) (K : Kn) (f : GA) : TI := fun s H R => ∃ σ F Qd, Rel B K σ s F H ∧ f σ Qd ∧ ∀ ds, Qd ds → ∀ F' H' J, Grow B.W F H F' H' → DeckIn B.W F' H' → ItOk B K J ds F' → R J H'
structure PID (B : Bs) (X : Cx) (tg iter : Expr) (f : GA) : Prop where
  run : PI X tg iter (LI B X.kn f)
theorem pi_imp {tg : Expr} {t t' : TI} (h : PI X tg e t) (w : ∀ s H R, t' s H R → t s H R) : PI X tg e t' := ⟨fun pins s σ H R I q => h.run pins s σ H R I (w _ _ _ q)⟩
theorem itOk_list {K : Kn} {a : Addr} {vs : List V} {ds : List D} {F : Hp} (h : F a = some (.lst vs)) (r : Reps K F vs ds) : ItOk B K (Itl K.K a) ds F := by
  refine ⟨fun F' H' i d e1 e2 dk hd => ?_, fun F' H' i e1 e2 hi => ⟨vs, SqL.of (e2 _ _ (e1 _ _ h)), by rw [r.length]; exact hi⟩⟩
  have ha : H' a = some (.lst vs) := e2 _ _ (e1 _ _ h)
  obtain ⟨v, hv, rv⟩ := r.get hd
  refine ⟨⟨vs, v, SqL.of ha, hv⟩, fun x H'' ⟨e, f⟩ => ?_⟩
  subst e
  have := f vs (SqL.of ha)
  rw [hv] at this
  cases this
  exact ⟨F', Grow.refl e2, dk, rv.mono e1⟩
theorem itOk_tup {K : Kn} {a : Addr} {vs : List V} {ds : List D} {F : Hp} (h : SqT K.K F a vs) (r : Reps K F vs ds) : ItOk B K (Itt K.K a) ds F := by
  refine ⟨fun F' H' i d e1 e2 dk hd => ?_, fun F' H' i e1 e2 hi => ⟨vs, same_t e2 (same_t e1 h), by rw [r.length]; exact hi⟩⟩
  have ha : SqT K.K H' a vs := same_t e2 (same_t e1 h)
  obtain ⟨v, hv, rv⟩ := r.get hd
  refine ⟨⟨vs, v, ha, hv⟩, fun x H'' ⟨e, f⟩ => ?_⟩
  subst e
  have := f vs ha
  rw [hv] at this
  cases this
  exact ⟨F', Grow.refl e2, dk, rv.mono e1⟩
def intsFrom (lo : Int) (n : Nat) : List D := (List.range n).map fun (i : Nat) => D.int (lo + (i : Int))
theorem itOk_range {K : Kn} {lo : Int} {n : Nat} {F : Hp} : ItOk B K (Itr lo n) (intsFrom lo n) F := by
  refine ⟨fun F' H' i d e1 e2 dk hd => ?_, fun F' H' i e1 e2 hi => by (show n ≤ i); simpa [intsFrom] using hi⟩
  unfold intsFrom at hd
  rw [List.getElem?_map] at hd
  have hi : i < n := by
    have := (List.getElem?_eq_some_iff.mp (Option.map_eq_some_iff.mp hd).choose_spec.1).1
    simpa using this
  refine ⟨hi, fun x H'' ⟨e, f⟩ => ?_⟩
  subst e f
  rw [List.getElem?_range hi] at hd
  cases hd
  exact ⟨F', Grow.refl e2, dk, .int _⟩
/-- for x in e, e data: a list, a tuple -/
@[simp] def gIter (fa : GE) (σ : List SV) (Q : List D → Prop) : Prop := fa σ fun d => match d with | .tup xs => Q xs | .lst xs => Q xs | _ => False
theorem pid_data {tg : Expr} (ha : ED B X e fa) : PID B X tg e (gIter fa) := ⟨⟨fun pins s σv H R I ⟨σ, F, Qd, Rl, q, k⟩ => by
  refine thn (ha.run.run pins s σv H (fun v H1 => ∃ d F1, Grow B.W F H F1 H1 ∧ DeckIn B.W F1 H1 ∧ Rep X.kn F1 v d ∧ match d with | .tup xs => Qd xs | .lst xs => Qd xs | _ => False) I ⟨σ, F, _, Rl, q, fun d qd F1 H1 v g1 d1 r1 => ⟨d, F1, g1, d1, r1, qd⟩⟩) fun v s1 ⟨x, H1, I1, r1, d, F1, g1, d1, rd, qd⟩ => ?_
  cases rd with
  | tup h r =>
    cases r1
    obtain ⟨its, rv, p, hz⟩ := I1.tuple (same_t g1.fh h)
    refine wpAny_pyIter_tuple (show s1.heap.IsTuple _ its.toArray from p) ?_
    refine ⟨s1.heap.objs.size, [s1.heap.objs.size], _, _, H1, rfl, I1.kept (t' := s1.toks) fun b o e => Heap.get?_push_of_some _ e, turn_tuple _ _, ⟨_, Heap.get?_push_size _ rfl, rfl, rfl⟩, fun b hb => ?_, k _ qd F1 H1 _ g1 d1 (itOk_tup h r)⟩
    have e : b = s1.heap.objs.size := by simpa using hb
    subst e
    exact I1.fpOk (Nat.le_refl _) (I1.hok.fresh (Nat.le_refl _))
  | lst h r =>
    cases r1
    obtain ⟨its, rv, p, hz⟩ := I1.list (SqL.of (g1.fh _ _ h))
    refine wpAny_pyIter_list p.isList ?_
    refine ⟨s1.heap.objs.size, [s1.heap.objs.size], _, _, H1, rfl, I1.kept (t' := s1.toks) fun b o e => Heap.get?_push_of_some _ e, turn_list _ _, ⟨_, Heap.get?_push_size _ rfl, rfl, rfl⟩, fun b hb => ?_, k _ qd F1 H1 _ g1 d1 (itOk_list h r)⟩
    have e : b = s1.heap.objs.size := by simpa using hb
    subst e
    exact I1.fpOk (Nat.le_refl _) (I1.hok.fresh (Nat.le_refl _))
  | _ => exact False.elim qd⟩⟩
/-- range(n), range(a, b) -/
def rng1D (ds : List D) (Q : List D → Prop) : Prop := ∃ j, ds = [.int j] ∧ -(2 ^ 62) ≤ j ∧ j < 2 ^ 62 ∧ Q (intsFrom 0 j.toNat)
@[simp] theorem rng1D_i (j : Int) (Q : List D → Prop) : rng1D [.int j] Q ↔ -(2 ^ 62) ≤ j ∧ j < 2 ^ 62 ∧ Q (intsFrom 0 j.toNat) := ⟨fun ⟨_, e, q⟩ => by cases e; exact q, fun q => ⟨j, rfl, q⟩⟩
def rng2D (ds : List D) (Q : List D → Prop) : Prop := ∃ i j, ds = [.int i, .int j] ∧ (-(2 ^ 62) ≤ i ∧ i < 2 ^ 62 ∧ -(2 ^ 62) ≤ j ∧ j < 2 ^ 62) ∧ Q (intsFrom i (j - i).toNat)
@[simp] theorem rng2D_i (i j : Int) (Q : List D → Prop) : rng2D [.int i, .int j] Q ↔ (-(2 ^ 62) ≤ i ∧ i < 2 ^ 62 ∧ -(2 ^ 62) ≤ j ∧ j < 2 ^ 62) ∧ Q (intsFrom i (j - i).toNat) := ⟨fun ⟨_, _, e, q⟩ => by cases e; exact q, fun q => ⟨i, j, rfl, q⟩⟩
@[simp] def gRng1 (fs : GA) (σ : List SV) (Q : List D → Prop) : Prop := fs σ fun ds => rng1D ds Q
@[simp] def gRng2 (fs : GA) (σ : List SV) (Q : List D → Prop) : Prop := fs σ fun ds => rng2D ds Q
theorem pid_rng1 {tg : Expr} {p : Pos} {fs : GA} (hg : Gl X "range") (hm : X.mg "range" = none) (ha : AD B X [a] fs) (hs : starEach [a] X.env = [(false, eval a X.env)] := by rfl) : PID B X tg (.Call (.Name "range" p) [a] [] pos) (gRng1 fs) :=
  ⟨pi_imp (pi_range1 hg hm ha.run hs) fun s H R ⟨σ, F, Qd, Rl, q, k⟩ => ⟨σ, F, _, Rl, q, fun ds ⟨j, e, h1, h2, qd⟩ F1 H1 vs g1 d1 r1 => by
    subst e
    cases r1 with
    | cons r t =>
      cases r
      cases t
      exact ⟨j, rfl, h1, h2, k _ qd F1 H1 _ g1 d1 itOk_range⟩⟩⟩
theorem pid_rng2 {tg : Expr} {p : Pos} {fs : GA} (hg : Gl X "range") (hm : X.mg "range" = none) (ha : AD B X [a, b] fs) (hs : starEach [a, b] X.env = [(false, eval a X.env), (false, eval b X.env)] := by rfl) (hs2 : starEach [b] X.env = [(false, eval b X.env)] := by rfl) : PID B X tg (.Call (.Name "range" p) [a, b] [] pos) (gRng2 fs) :=
  ⟨pi_imp (pi_range2 hg hm ha.run hs hs2) fun s H R ⟨σ, F, Qd, Rl, q, k⟩ => ⟨σ, F, _, Rl, q, fun ds ⟨i, j, e, h1, qd⟩ F1 H1 vs g1 d1 r1 => by
    subst e
    cases r1 with
    | cons r t =>
      cases r
      cases t with
      | cons r t =>
        cases r
        cases t
        exact ⟨i, j, rfl, h1, k _ qd F1 H1 _ g1 d1 itOk_range⟩⟩⟩
/-- the target of a for: a name, a tuple of names -/
abbrev GG := D → List SV → (List SV → Prop) → Prop
structure GD (B : Bs) (X : Cx) (tg : Expr) (gt : GG) : Prop where
  run : ∃ t, PG X tg t ∧ ∀ d v σ s F H (Qd : List SV → Prop) (Q : L2.St → Hp → Prop), Rel B X.kn σ s F H → Rep X.kn F v d → gt d σ Qd → (∀ σ' s', Rel B X.kn σ' s' F H → Qd σ' → Q s' H) → t v s H Q
@[simp] def ggName (i : Nat) (d : D) (σ : List SV) (Q : List SV → Prop) : Prop := Q (σ.set i (.d d))
@[simp] def ggTup (is : List Nat) (d : D) (σ : List SV) (Q : List SV → Prop) : Prop := unT is.length d fun ds => Q (setAll is ds σ)
theorem gd_name {i : Nat} {x : Str} (h : PG X (.Name x pos) (gName i)) : GD B X (.Name x pos) (ggName i) := ⟨_, h, fun d v σ s F H Qd Q R r q k => k _ _ (R.set r) q⟩
theorem gd_tup {is : List Nat} {ts : List Expr} {kt : Nat} (hc : X.calm = true) (hn : NamesAt X ts is) (hl : (assignEach ts X.env).length = is.length := by rfl) (hst : (assignEach ts X.env).findIdx? (·.1) = none := by rfl) : GD B X (.Tuple ts kt pos) (ggTup is) :=
  ⟨_, pg_tup hc hn.run hl hst, fun d v σ s F H Qd Q R r ⟨ds, e, hl, q⟩ k => by
    subst e
    cases r with
    | tup h r => exact ⟨_, _, rfl, same_t R.ex h, by rw [r.length]; exact hl, by rw [r.length]; exact hl, k _ _ (R.sets r) q⟩⟩
def forG (gt : GG) (g : GS) : List D → Ed → List SV → Prop
  | [], E, σ => E.nx σ
  | d :: ds, E, σ => gt d σ fun σ' => g { E with nx := forG gt g ds E, ct := forG gt g ds E, bk := E.nx } σ'
/-- a loop that does not open by itself -/
@[irreducible] def forL (gt : GG) (g : GS) (ds : List D) (E : Ed) (σ : List SV) : Prop := forG gt g ds E σ
@[simp] theorem forL_eq (gt : GG) (g : GS) (ds : List D) (E : Ed) (σ : List SV) : forL gt g ds E σ = forG gt g ds E σ := by unfold forL; rfl
theorem forL_in {gt : GG} {g : GS} {ds : List D} {E : Ed} {σ : List SV} (h : forG gt g ds E σ) : forL gt g ds E σ := by rw [forL_eq]; exact h
@[simp] def gFor (fi : GA) (gt : GG) (g : GS) (E : Ed) (σ : List SV) : Prop := fi σ fun ds => forL gt g ds E σ
theorem sd_for {tg iter : Expr} {fi : GA} {gt : GG} (hp : PassesOwn (model X.prog X.w) X.A X.env X.xe) (hc : X.calm = true) (hi : PID B X tg iter fi) (hg : GD B X tg gt) (hb : SDs B X sts g) (hs : ∀ x, foldedSetIterable iter X.env x = pure x := by intro _; rfl) : SD B X (.For tg iter sts [] pos) (gFor fi gt g) := by
  obtain ⟨t, ht, hgt⟩ := hg.run
  refine ⟨ps_imp (ps_for hp hc hi.run ht hb.run hs) fun Dn s H ⟨σ, F, E, R, q, kk⟩ => ⟨σ, F, _, R, q, fun ds qd F1 H1 J g1 d1 ok => ?_⟩⟩
  have R1 := R.grow g1 d1
  rw [forL_eq] at qd
  refine ⟨fun i m s' H' => m = ds.length - i ∧ ∃ σ' F', Same F1 F' ∧ Rel B X.kn σ' s' F' H' ∧ forG gt g (ds.drop i) E σ', ⟨ds.length, rfl, σ, F1, Same.refl F1, R1, by simpa using qd⟩, ?_⟩
  rintro i m s' H' ⟨rfl, σ', F', e', R', q'⟩
  by_cases hlt : i < ds.length
  · obtain ⟨hgo, hy⟩ := ok.go F' H' i ds[i] e' R'.ex R'.deck (by simp [hlt])
    rw [List.drop_eq_getElem_cons hlt] at q'
    refine .inr ⟨hgo, fun s3 H3 => ∃ σ3 F3, Same F1 F3 ∧ Rel B X.kn σ3 s3 F3 H3 ∧ forG gt g (ds.drop (i + 1)) E σ3, fun s3 H3 z => ⟨ds.length - (i + 1), by omega, rfl, z⟩, fun x H2 hx => ?_⟩
    obtain ⟨F2, g2, d2, r2⟩ := hy x H2 hx
    have R2 := R'.grow g2 d2
    refine hgt ds[i] x σ' s' F2 H2 _ _ R2 r2 q' fun σ3 s3 R3 q3 => ⟨σ3, F2, _, R3, q3, ?_⟩
    have eF := e'.trans g2.ff
    exact ⟨fun σ4 s4 F4 H4 a r q4 => ⟨σ4, F4, eF.trans a, r, q4⟩, kk.rt, fun σ4 s4 F4 H4 a r q4 => kk.nx σ4 s4 F4 H4 (g1.ff.trans (eF.trans a)) r q4, fun σ4 s4 F4 H4 a r q4 => ⟨σ4, F4, eF.trans a, r, q4⟩⟩
  · rw [List.drop_eq_nil_of_le (by omega)] at q'
    exact .inl ⟨ok.stop F' H' i e' R'.ex (by omega), kk.nx σ' s' F' H' (g1.ff.trans e') R' q'⟩
end
end ND

/-! ND6: comprehensions, built-in functions -/
namespace ND
open PySem PySem.Spec L2
open PyProof.Rows (envOfC)

/-! ### lists by comprehension -/
@[simp] def wipeD (σ : List SV) : List Nat → List SV
  | [] => σ
  | v :: vs => (wipeD σ vs).set v .no
theorem Rel.wipe {B : Bs} {K : Kn} {σ : List SV} {s : L2.St} {F H : Hp} (R : Rel B K σ s F H) : ∀ vs : List Nat, Rel B K (wipeD σ vs) (L2.wipe s vs) F H
  | [] => R
  | v :: vs => (Rel.wipe R vs).drop
theorem set_set_ne {α : Type} {l : List α} {i j : Nat} {a b : α} (h : i ≠ j) : (l.set i a).set j b = (l.set j b).set i a := List.set_comm a b h
theorem wipe_set {s : L2.St} {i : Nat} {v : Option V} : ∀ {vs : List Nat}, i ∈ vs → L2.wipe (s.set i v) vs = L2.wipe s vs
  | w :: vs, h => by
    unfold L2.wipe
    by_cases e : i ∈ vs
    · rw [wipe_set e]
    · have e2 : i = w := by
        rcases List.mem_cons.mp h with h | h
        · exact h
        · exact absurd h e
      subst e2
      have key : ∀ (us : List Nat), i ∉ us → L2.wipe (s.set i v) us = (L2.wipe s us).set i v := by
        intro us
        induction us with
        | nil => intro _; rfl
        | cons u us ih =>
          intro hu
          unfold L2.wipe
          rw [ih (fun z => hu (List.mem_cons_of_mem _ z)), set_set_ne (fun z => hu (by rw [z]; exact List.mem_cons_self))]
      rw [key vs e, List.set_set]
theorem wipe_idem (s : L2.St) : ∀ vs : List Nat, L2.wipe (L2.wipe s vs) vs = L2.wipe s vs := by
  have key : ∀ (ws vs : List Nat), (∀ i ∈ ws, i ∈ vs) → L2.wipe (L2.wipe s ws) vs = L2.wipe s vs := by
    intro ws
    induction ws with
    | nil => intro vs _; rfl
    | cons w ws ih =>
      intro vs h
      show L2.wipe ((L2.wipe s ws).set w none) vs = _
      rw [wipe_set (h w List.mem_cons_self)]
      exact ih vs fun i hi => h i (List.mem_cons_of_mem _ hi)
  exact fun vs => key vs vs fun _ h => h
theorem wipe_sets {own : List Nat} : ∀ {is : List Nat} {vs : List V} {s : L2.St}, (∀ i ∈ is, i ∈ own) → L2.wipe (setAllV is vs s) own = L2.wipe s own
  | [], _, _, _ => rfl
  | _ :: _, [], _, _ => rfl
  | i :: is, v :: vs, s, h => by
    show L2.wipe (setAllV is vs (s.set i (some v))) own = _
    rw [wipe_sets fun j hj => h j (List.mem_cons_of_mem _ hj), wipe_set (h i List.mem_cons_self)]
/-- a comprehension's target -/
structure CTg (B : Bs) (K : Kn) (own : List Nat) (t : TG) (gt : GG) : Prop where
  run : ∀ d v σ s F H (Qd : List SV → Prop) (Q : L2.St → Hp → Prop), Rel B K σ s F H → Rep K F v d → gt d σ Qd → (∀ σ' s', Rel B K σ' s' F H → L2.wipe s' own = L2.wipe s own → Qd σ' → Q s' H) → t v s H Q
section
variable {B : Bs} {X : Cx} {K : Kn} {own : List Nat}
theorem ct_name {i : Nat} (h : i ∈ own) : CTg B K own (gName i) (ggName i) := ⟨fun d v σ s F H Qd Q R r q k => k _ _ (R.set r) (wipe_set h) q⟩
abbrev tgNames (K : PySem.W.Frag) (is : List Nat) : TG := L2.gTup K is.length fun vs σ H Q => vs.length = is.length ∧ Q (setAllV is vs σ) H
theorem ct_tup {is : List Nat} (h : ∀ i ∈ is, i ∈ own) : CTg B K own (tgNames K.K is) (ggTup is) := ⟨fun d v σ s F H Qd Q R r ⟨ds, e, hl, q⟩ k => by
  subst e
  cases r with
  | tup h' r => exact ⟨_, _, rfl, same_t R.ex h', by rw [r.length]; exact hl, by rw [r.length]; exact hl, k _ _ (R.sets r) (wipe_sets h) q⟩⟩
theorem pg_names {is : List Nat} {ts : List Expr} {kt : Nat} {pos : Pos} (hc : X.calm = true) (hn : NamesAt X ts is) (hl : (assignEach ts X.env).length = is.length := by rfl) (hst : (assignEach ts X.env).findIdx? (·.1) = none := by rfl) : PG X (.Tuple ts kt pos) (tgNames X.K is) := pg_tup hc hn.run hl hst
structure TDs (B : Bs) (X : Cx) (ifs : List Expr) (f : GT) : Prop where
  run : PTs X ifs (LT B X.kn f)
@[simp] def gYes (_ : List SV) (Q : Bool → Prop) : Prop := Q true
theorem tds_nil : TDs B X [] gYes := ⟨⟨fun pins s σ H Q I ⟨σ', F, Qd, R, q, k⟩ => pts_nil.run pins s σ H Q I (k _ q F H (Grow.refl R.ex) R.deck)⟩⟩
theorem tds_one {c : Expr} {ft : GT} (h : TD B X c ft) : TDs B X [c] ft := ⟨pts_one h.run⟩
def lcG (gt : GG) (ft : GT) (fe : GE) (own : List Nat) (σ : List SV) (Q : List D → Prop) : List D → List D → Prop
  | [], acc => Q acc
  | d :: ds, acc => gt d (wipeD σ own) fun σ2 => ft σ2 fun b => if b = true then fe σ2 fun y => acc.length < sizeLine ∧ lcG gt ft fe own σ Q ds (acc ++ [y]) else lcG gt ft fe own σ Q ds acc
@[simp] def gLc (fi : GA) (gt : GG) (ft : GT) (fe : GE) (own : List Nat) (σ : List SV) (Q : List D → Prop) : Prop := fi σ fun ds => lcG gt ft fe own σ Q ds []
theorem Grow.write {W : WT} {F H F' H' : Hp} {p : Addr} {o : HO} (g : Grow W F H F' H') (hp : H p = none) (fp : F' p = none) : Grow W F H F' (upd H' p o) :=
  ⟨g.ff, fun a u e => by
    rw [upd_ne fun z => by rw [z, fp] at e; cases e]
    exact g.fh a u e, fun a u e w nt => by
    rw [upd_ne fun z => by rw [z, hp] at e; cases e]
    exact g.hh a u e w nt, g.new, fun a e => upd_keep (g.keep a e)⟩
theorem DeckIn.write {W : WT} {F H F' H' : Hp} {p : Addr} {o : HO} (d0 : DeckIn W F H) (d : DeckIn W F' H') (hp : H p = none) (nx : ∀ φ, H' p ≠ some (.ext φ)) (nt : NT o := by intro _ z; cases z) : DeckIn W F' (upd H' p o) :=
  d.keep (fun _ _ => rfl) (fun a w => upd_ne fun z => (d0.w w).2 (by rw [z]; exact hp)) (fun a φ e => by rw [upd_ne (fun z => nx φ (by rw [← z]; exact e))]; exact e) d.nf (ot_upd nt)
theorem lc_run {fi : GA} {gt : GG} {ft : GT} {fe : GE} {t : TG} {own : List Nat} {s : L2.St} {H : Hp} {Q : VK} (ct : CTg B K own t gt) (h : LF B K (gLc fi gt ft fe own) s H Q) : tLc (LI B K fi) t (LT B K ft) (LE B K fe) own s H Q := by
  obtain ⟨σ, F, Qd, R, q, k⟩ := h
  refine ⟨σ, F, _, R, q, fun ds qds F1 H1 J g1 d1 okJ L hL => ?_⟩
  refine ⟨fun i m H' => m = ds.length - i ∧ ∃ F' acc vs, Grow B.W F1 H1 F' H' ∧ DeckIn B.W F' H' ∧ F' L = none ∧ H' L = some (.lst vs) ∧ Reps K F' vs acc ∧ lcG gt ft fe own σ Qd (ds.drop i) acc, ⟨ds.length, rfl, F1, [], [], Grow.laid g1.fh hL, d1.laid hL, g1.fh.free hL, upd_same, .nil, by simpa using qds⟩, ?_⟩
  rintro i m H' ⟨rfl, F', acc, vs, g', dk', fL, hv, rv, q'⟩
  by_cases hlt : i < ds.length
  · obtain ⟨hgo, hy⟩ := okJ.go F' H' i ds[i] g'.ff g'.fh dk' (by simp [hlt])
    rw [List.drop_eq_getElem_cons hlt] at q'
    refine .inr ⟨hgo, fun H3 => ∃ F3 acc3 vs3, Grow B.W F1 H1 F3 H3 ∧ DeckIn B.W F3 H3 ∧ F3 L = none ∧ H3 L = some (.lst vs3) ∧ Reps K F3 vs3 acc3 ∧ lcG gt ft fe own σ Qd (ds.drop (i + 1)) acc3, fun H3 z => ⟨ds.length - (i + 1), by omega, rfl, z⟩, fun x H2 hx => ?_⟩
    obtain ⟨F2, g2, d2, r2⟩ := hy x H2 hx
    have R2 := ((R.grow g1 d1).grow (g'.trans g2) d2).wipe own
    have nW : ¬ InW B.W L := fun w => (d1.w w).2 hL
    have key : ∀ {F3 H3 : Hp}, Grow B.W F' H' F3 H3 → F3 L = none ∧ H3 L = some (.lst vs) := fun {F3 H3} g3 => ⟨g3.new L fL (by rw [hv]; exact Option.some_ne_none _), g3.hh L _ hv nW (by intro _ z; cases z)⟩
    refine ct.run ds[i] x _ _ F2 H2 _ _ R2 r2 q' fun σ3 s3 R3 hw q3 => ⟨by rw [hw]; exact wipe_idem _ _, σ3, F2, _, R3, q3, fun b qb F3 H3 g3 d3 => ?_⟩
    cases b with
    | false =>
      have g23 := g2.trans g3
      exact ⟨F3, acc, vs, g'.trans g23, d3, (key g23).1, (key g23).2, rv.mono g23.ff, by simpa using qb⟩
    | true =>
      refine ⟨σ3, F3, _, R3.grow g3 d3, qb, fun y ⟨hz, qy⟩ F4 H4 v g4 d4 r4 => ?_⟩
      have g24 := (g2.trans g3).trans g4
      have rv4 := rv.mono g24.ff
      exact ⟨vs, (key g24).2, by rw [rv.length]; exact hz, F4, acc ++ [y], vs ++ [v], (g'.trans g24).write hL (key g24).1, d1.write d4 hL (fun φ z => by rw [(key g24).2] at z; cases z), (key g24).1, upd_same, rv4.append (.cons r4 .nil), qy⟩
  · rw [List.drop_eq_nil_of_le (by omega)] at q'
    exact .inl ⟨okJ.stop F' H' i g'.ff g'.fh (by omega), k acc q' F' H' L vs (g1.trans g') dk' (g1.back hL) fL hv rv⟩
theorem fd_lc {elt tg iter : Expr} {ifs : List Expr} {scope : Scope} {own : List (Str × Nat)} {pos : Pos} {fi : GA} {gt : GG} {ft : GT} {fe : GE} {t : TG} (hc : X.calm = true) (hN : X.N.Nodup) (hi : PID B X tg iter fi) (ok : BlkOk X.N X.env.scope scope own)
    (ct : CTg B X.kn (own.map (·.2)) t gt) (hg : ∀ (s : Shared) (H : Hp) (C : Addr) (cl : List (Str × Addr)) (fp : List Addr), PG (X.blk s H scope (compEnvC scope cl C X.env) fp) tg t)
    (ht : ∀ (s : Shared) (H : Hp) (C : Addr) (cl : List (Str × Addr)) (fp : List Addr), TDs B (X.blk s H scope (compEnvC scope cl C X.env) fp) ifs ft)
    (he : ∀ (s : Shared) (H : Hp) (C : Addr) (cl : List (Str × Addr)) (fp : List Addr), ED B (X.blk s H scope (compEnvC scope cl C X.env) fp) elt fe) (hs : ∀ x, foldedSetIterable iter X.env x = pure x := by intro _; rfl) :
    FD B X (.ListComp elt [⟨tg, iter, ifs, 0⟩] scope pos) (gLc fi gt ft fe (own.map (·.2))) :=
  ⟨pe_imp (pe_lc (te := LE B X.kn fe) (tt := LT B X.kn ft) hc hN hi.run ok hg (fun s H C cl fp => (ht s H C cl fp).run) (fun s H C cl fp => (he s H C cl fp).run) hs) fun s H Q h => lc_run ct h⟩
/-- y = [..], a list of one's own, or data -/
theorem sd_setLcO {i : Nat} {y : Str} {py : Pos} {elt tg iter : Expr} {ifs : List Expr} {scope : Scope} {own : List (Str × Nat)} {pos spos : Pos} {fi : GA} {gt : GG} {ft : GT} {fe : GE} {t : TG} (hc : X.calm = true) (hN : X.N.Nodup) (hy : X.N[i]? = some y) (hyl : X.env.scope.names.lookup y = some .local)
    (hsw : swapsWith (.ListComp elt [⟨tg, iter, ifs, 0⟩] scope pos) (some (.Name y py)) spos.line X.env = pure true) (hi : PID B X tg iter fi) (ok : BlkOk X.N X.env.scope scope own)
    (ct : CTg B X.kn (own.map (·.2)) t gt) (hg : ∀ (s : Shared) (H : Hp) (C : Addr) (cl : List (Str × Addr)) (fp : List Addr), PG (X.blk s H scope (compEnvC scope cl C X.env) fp) tg t)
    (ht : ∀ (s : Shared) (H : Hp) (C : Addr) (cl : List (Str × Addr)) (fp : List Addr), TDs B (X.blk s H scope (compEnvC scope cl C X.env) fp) ifs ft)
    (he : ∀ (s : Shared) (H : Hp) (C : Addr) (cl : List (Str × Addr)) (fp : List Addr), ED B (X.blk s H scope (compEnvC scope cl C X.env) fp) elt fe) (hs : ∀ x, foldedSetIterable iter X.env x = pure x := by intro _; rfl) :
    SD B X (.Assign [.Name y py] (.ListComp elt [⟨tg, iter, ifs, 0⟩] scope pos) spos) (gSetL i (gLc fi gt ft fe (own.map (·.2)))) :=
  ⟨ps_imp (ps_setLc (te := LE B X.kn fe) (tt := LT B X.kn ft) hc hN hy hyl hsw hi.run ok hg (fun s H C cl fp => (ht s H C cl fp).run) (fun s H C cl fp => (he s H C cl fp).run) hs) fun Dn s H ⟨σ, F, E, R, q, k⟩ =>
    lc_run ct ⟨σ, F, _, R, q, fun ds qd F' H' p vs g dk hp fp ep r => k.nx _ _ F' H' g.ff (R.setNew (x := .ol ds) g dk hp fp ⟨rfl, vs, ep, r⟩) qd⟩⟩
theorem sd_setLc {i : Nat} {y : Str} {py : Pos} {elt tg iter : Expr} {ifs : List Expr} {scope : Scope} {own : List (Str × Nat)} {pos spos : Pos} {fi : GA} {gt : GG} {ft : GT} {fe : GE} {t : TG} (hc : X.calm = true) (hN : X.N.Nodup) (hy : X.N[i]? = some y) (hyl : X.env.scope.names.lookup y = some .local)
    (hsw : swapsWith (.ListComp elt [⟨tg, iter, ifs, 0⟩] scope pos) (some (.Name y py)) spos.line X.env = pure true) (hi : PID B X tg iter fi) (ok : BlkOk X.N X.env.scope scope own)
    (ct : CTg B X.kn (own.map (·.2)) t gt) (hg : ∀ (s : Shared) (H : Hp) (C : Addr) (cl : List (Str × Addr)) (fp : List Addr), PG (X.blk s H scope (compEnvC scope cl C X.env) fp) tg t)
    (ht : ∀ (s : Shared) (H : Hp) (C : Addr) (cl : List (Str × Addr)) (fp : List Addr), TDs B (X.blk s H scope (compEnvC scope cl C X.env) fp) ifs ft)
    (he : ∀ (s : Shared) (H : Hp) (C : Addr) (cl : List (Str × Addr)) (fp : List Addr), ED B (X.blk s H scope (compEnvC scope cl C X.env) fp) elt fe) (hs : ∀ x, foldedSetIterable iter X.env x = pure x := by intro _; rfl) :
    SD B X (.Assign [.Name y py] (.ListComp elt [⟨tg, iter, ifs, 0⟩] scope pos) spos) (gSet i (gFrz (gLc fi gt ft fe (own.map (·.2))))) :=
  ⟨ps_imp (ps_setLc (te := LE B X.kn fe) (tt := LT B X.kn ft) hc hN hy hyl hsw hi.run ok hg (fun s H C cl fp => (ht s H C cl fp).run) (fun s H C cl fp => (he s H C cl fp).run) hs) fun Dn s H ⟨σ, F, E, R, q, k⟩ =>
    lc_run ct ⟨σ, F, _, R, q, fun ds qd F' H' p vs g dk hp fp ep r =>
      k.nx _ _ (upd F' p (.lst vs)) H' (g.freeze hp fp ep).ff ((R.grow (g.freeze hp fp ep) (R.deck.freeze dk hp)).set (.lst upd_same (r.mono (same_new fp)))) qd⟩⟩
end
end ND

/-! ND7: built-in functions by data -/
namespace ND
open PySem PySem.Spec L2
open PyProof.Rows (envOfC)

/-- a built-in function of data -/
def LCa (B : Bs) (K : Kn) (g : List D → (D → Prop) → Prop) : List V → Hp → VK → Prop := fun vs H Q => ∃ F ds Qd, Same F H ∧ DeckIn B.W F H ∧ RepBs B.W K F H vs ds ∧ g ds Qd ∧ Fin B K F H Qd Q
@[simp] def gBlt (g : List D → (D → Prop) → Prop) (fs : GA) (σ : List SV) (Q : D → Prop) : Prop := fs σ fun ds => g ds Q
section
variable {B : Bs} {X : Cx} {e : Expr} {es : List Expr} {x : Str} {p pos : Pos} {fs : GA} {id T : String} {g : List D → (D → Prop) → Prop}
theorem callR_by {f : Value} {r' : List V → Hp → VK → Prop} (w : ∀ vs H Q, r' vs H Q → ∃ r, CallR X f r ∧ r vs H Q) : CallR X f r' := fun pins s σ H xs us Q I rx q => by
  obtain ⟨r, h, q'⟩ := w _ _ _ q
  exact h pins s σ H xs us Q I rx q'
theorem tcb_of {s : L2.St} {H : Hp} {Q : VK} (h : LE B X.kn (gBlt g fs) s H Q) : tCB (LCa B X.kn g) (LAB B X.kn fs) s H Q := by
  obtain ⟨σ, F, Qd, R, q, k⟩ := h
  exact ⟨σ, F, _, R, q, fun ds qd F1 H1 vs g1 d1 r1 => ⟨F1, ds, Qd, g1.fh, d1, r1, qd, k.more g1⟩⟩
theorem ed_callB (hc : CallR X (.builtin id) (LCa B X.kn g)) (hg : Gl X x) (hm : X.mg x = none) (hv : bootBuiltins x = some (.builtin id)) (ha : ABD B X (e :: es) fs) (hn : x ≠ "__name__" := by decide) (hdb : (x == ("__debug__" : Str)) = false := by decide)
    (he : starEach (e :: es) X.env = (false, eval e X.env) :: starEach es X.env := by rfl) (hpl : (backTo pos (starEach es X.env)).any (·.1) = false := by rfl) : ED B X (.Call (.Name x p) (e :: es) [] pos) (gBlt g fs) :=
  ⟨pe_imp (pe_callB hc hg hm hv ha.run hn hdb he hpl) fun s H Q h => tcb_of h⟩
theorem ed_callTy (hc : CallR X (.type T) (LCa B X.kn g)) (hg : Gl X x) (hm : X.mg x = none) (hv : bootBuiltins x = some (.type T)) (ha : ABD B X (e :: es) fs) (hn : x ≠ "__name__" := by decide) (hdb : (x == ("__debug__" : Str)) = false := by decide)
    (he : starEach (e :: es) X.env = (false, eval e X.env) :: starEach es X.env := by rfl) (hpl : (backTo pos (starEach es X.env)).any (·.1) = false := by rfl) : ED B X (.Call (.Name x p) (e :: es) [] pos) (gBlt g fs) :=
  ⟨pe_imp (pe_callTy hc hg hm hv ha.run hn hdb he hpl) fun s H Q h => tcb_of h⟩
/-- a module's name for a built-in function -/
theorem ed_callFun (hc : CallR X (.builtin id) (LCa B X.kn g)) (hg : Gl X x) (hm : X.mg x = some (.builtin id)) (ha : ABD B X (e :: es) fs) (hdb : (x == ("__debug__" : Str)) = false := by decide)
    (he : starEach (e :: es) X.env = (false, eval e X.env) :: starEach es X.env := by rfl) (hpl : (backTo pos (starEach es X.env)).any (·.1) = false := by rfl) : ED B X (.Call (.Name x p) (e :: es) [] pos) (gBlt g fs) :=
  ⟨pe_imp (pe_callBfun hc hg hm ha.run hdb he hpl) fun s H Q h => tcb_of h⟩
/-- a name of a built-in type -/
theorem ed_ty (hg : Gl X x) (hm : X.mg x = none) (hv : bootBuiltins x = some (.type T)) (hn : x ≠ "__name__" := by decide) (hdb : (x == ("__debug__" : Str)) = false := by decide) : ED B X (.Name x pos) (gC (.opq (.ty T))) :=
  ed_c (v := .ty T) (pe_bltn hg hm hv rfl hn hdb) fun _ => .opq _

theorem rb1 {W : WT} {K : Kn} {F H : Hp} {vs : List V} {d : D} (h : RepBs W K F H vs [d]) : ∃ v, vs = [v] ∧ RepB W K F H v d := by
  cases h with
  | cons h t =>
    cases t
    exact ⟨_, rfl, h⟩
theorem rb2 {W : WT} {K : Kn} {F H : Hp} {vs : List V} {d d' : D} (h : RepBs W K F H vs [d, d']) : ∃ v u, vs = [v, u] ∧ RepB W K F H v d ∧ RepB W K F H u d' := by
  cases h with
  | cons h t =>
    obtain ⟨u, rfl, h2⟩ := rb1 t
    exact ⟨_, _, rfl, h, h2⟩
/-! the answers -/
def lenD : List D → (D → Prop) → Prop
  | [.lst xs], Q => Q (.int xs.length)
  | [.tup xs], Q => Q (.int xs.length)
  | [.str x], Q => x.length ≤ sizeLine ∧ Q (.int x.length)
  | [.dic ks], Q => Q (.int ks.length)
  | _, _ => False
theorem repKs_len {K : Kn} {F : Hp} : ∀ {v : List (Key × V)} {d : List (Key × D)}, RepKs K F v d → v.length = d.length
  | _, _, .nil => rfl
  | _, _, .cons _ t => by rw [List.length_cons, List.length_cons, repKs_len t]
theorem c_len : CallR X (.builtin "len") (LCa B X.kn lenD) := callR_by fun vs H Q ⟨F, ds, Qd, e, dk, r, q, k⟩ => by
  unfold lenD at q
  split at q
  · obtain ⟨v, rfl, r1⟩ := rb1 r
    obtain ⟨a, us, rfl, h1, h2⟩ := r1.lst e
    exact ⟨_, call_len_seq, a, us, rfl, .inl (SqL.of h1), by rw [h2.length]; exact k.here e dk q (.int _)⟩
  · obtain ⟨v, rfl, r1⟩ := rb1 r
    obtain ⟨a, us, rfl, _, h1, h2⟩ := r1.tup e
    exact ⟨_, call_len_seq, a, us, rfl, .inr h1, by rw [h2.length]; exact k.here e dk q (.int _)⟩
  · obtain ⟨v, rfl, r1⟩ := rb1 r
    exact ⟨_, call_len_str, _, by rw [r1.str], q.1, k.here e dk q.2 (.int _)⟩
  · obtain ⟨v, rfl, r1⟩ := rb1 r
    obtain ⟨a, us, rfl, h1, h2⟩ := r1.dic e
    exact ⟨_, call_lenD, a, us, rfl, h1, by rw [repKs_len h2]; exact k.here e dk q (.int _)⟩
  · exact q.elim
def intD : List D → (D → Prop) → Prop
  | [.int i], Q => Q (.int i)
  | [.bl b], Q => Q (.int (if b = true then 1 else 0))
  | [.str x], Q => ∃ n, intText? x = some n ∧ x.length ≤ 640 ∧ Q (.int n)
  | _, _ => False
theorem c_int : CallR X (.type "int") (LCa B X.kn intD) := callR_by fun vs H Q ⟨F, ds, Qd, e, dk, r, q, k⟩ => by
  unfold intD at q
  split at q
  · obtain ⟨v, rfl, r1⟩ := rb1 r
    exact ⟨_, call_int1, .inl ⟨_, by rw [r1.int], k.here e dk q (.int _)⟩⟩
  · obtain ⟨v, rfl, r1⟩ := rb1 r
    exact ⟨_, call_int1, .inr ⟨_, by rw [r1.bl], k.here e dk q (.int _)⟩⟩
  · obtain ⟨v, rfl, r1⟩ := rb1 r
    obtain ⟨n, h1, h2, h3⟩ := q
    exact ⟨_, call_int_str, _, n, by rw [r1.str], h1, h2, k.here e dk h3 (.int _)⟩
  · exact q.elim
def boolD : List D → (D → Prop) → Prop
  | [.int i], Q => Q (.bl (i != 0))
  | [.bl b], Q => Q (.bl b)
  | _, _ => False
theorem c_bool : CallR X (.type "bool") (LCa B X.kn boolD) := callR_by fun vs H Q ⟨F, ds, Qd, e, dk, r, q, k⟩ => by
  unfold boolD at q
  split at q
  · obtain ⟨v, rfl, r1⟩ := rb1 r
    exact ⟨_, call_bool1, .inl ⟨_, by rw [r1.int], k.here e dk q (.bl _)⟩⟩
  · obtain ⟨v, rfl, r1⟩ := rb1 r
    exact ⟨_, call_bool1, .inr ⟨_, by rw [r1.bl], k.here e dk q (.bl _)⟩⟩
  · exact q.elim
def absD : List D → (D → Prop) → Prop
  | [.int i], Q => Q (.int (if i < 0 then -i else i))
  | _, _ => False
theorem c_abs : CallR X (.builtin "abs") (LCa B X.kn absD) := callR_by fun vs H Q ⟨F, ds, Qd, e, dk, r, q, k⟩ => by
  unfold absD at q
  split at q
  · obtain ⟨v, rfl, r1⟩ := rb1 r
    exact ⟨_, call_abs, _, by rw [r1.int], k.here e dk q (.int _)⟩
  · exact q.elim
def max2D : List D → (D → Prop) → Prop
  | [.int i, .int j], Q => Q (.int (if j > i then j else i))
  | _, _ => False
theorem c_max2 (hc : X.calm = true) : CallR X (.builtin "max") (LCa B X.kn max2D) := callR_by fun vs H Q ⟨F, ds, Qd, e, dk, r, q, k⟩ => by
  unfold max2D at q
  split at q
  · obtain ⟨v, u, rfl, r1, r2⟩ := rb2 r
    exact ⟨_, call_max2 hc, _, _, by rw [r1.int, r2.int], k.here e dk q (.int _)⟩
  · exact q.elim
def min2D : List D → (D → Prop) → Prop
  | [.int i, .int j], Q => Q (.int (if j < i then j else i))
  | _, _ => False
theorem c_min2 (hc : X.calm = true) : CallR X (.builtin "min") (LCa B X.kn min2D) := callR_by fun vs H Q ⟨F, ds, Qd, e, dk, r, q, k⟩ => by
  unfold min2D at q
  split at q
  · obtain ⟨v, u, rfl, r1, r2⟩ := rb2 r
    exact ⟨_, call_min2 hc, _, _, by rw [r1.int, r2.int], k.here e dk q (.int _)⟩
  · exact q.elim
def gcdD : List D → (D → Prop) → Prop
  | [.int i, .int j], Q => Q (.int ((Nat.gcd i.natAbs j.natAbs : Nat) : Int))
  | _, _ => False
theorem c_gcd : CallR X (.builtin "math.gcd") (LCa B X.kn gcdD) := callR_by fun vs H Q ⟨F, ds, Qd, e, dk, r, q, k⟩ => by
  unfold gcdD at q
  split at q
  · obtain ⟨v, u, rfl, r1, r2⟩ := rb2 r
    exact ⟨_, cr_gcd, _, _, by rw [r1.int, r2.int], k.here e dk q (.int _)⟩
  · exact q.elim
theorem isqrt_wide : CallR X (.builtin "math.isqrt") (fun vs H Q => ∃ a : Int, vs = [.int a] ∧ 0 ≤ a ∧ a.toNat.log2 < 13000 ∧ Q (.int ((Float64.isqrt a.toNat : Nat) : Int)) H) := by
  intro pins s σ H vs us Q I r h
  obtain ⟨a, rfl, h0, h1, q⟩ := h
  obtain ⟨u, rfl, t, rfl⟩ := vals1 r
  have h2 : a.toNat.log2 / 30 < 434 := Nat.div_lt_of_lt_mul (by omega)
  exact call_function_meets PySem.W.MGF.kind_isqrt PySem.W.MGF.plain_isqrt PySem.W.MGF.entry_isqrt (PySem.W.MGF.args_isqrt _) (PySem.W.mg_run_isqrt a t (by omega) (by omega) (by omega)).meets ⟨.int _, H, I.tok _, ⟨_, rfl⟩, q⟩
def isqrtD : List D → (D → Prop) → Prop
  | [.int i], Q => 0 ≤ i ∧ i.toNat.log2 < 13000 ∧ Q (.int ((Float64.isqrt i.toNat : Nat) : Int))
  | _, _ => False
theorem c_isqrt : CallR X (.builtin "math.isqrt") (LCa B X.kn isqrtD) := callR_by fun vs H Q ⟨F, ds, Qd, e, dk, r, q, k⟩ => by
  unfold isqrtD at q
  split at q
  · obtain ⟨v, rfl, r1⟩ := rb1 r
    exact ⟨_, isqrt_wide, _, by rw [r1.int], q.1, q.2.1, k.here e dk q.2.2 (.int _)⟩
  · exact q.elim

/-! isinstance with a built-in type -/
def tyD : D → Option String
  | .non => some "NoneType" | .bl _ => some "bool" | .int _ => some "int" | .str _ => some "str" | .tup _ => some "tuple" | .lst _ => some "list" | .dic _ => some "dict" | _ => none
def isTb (t T : String) : Bool := t == T || (t == "bool" && T == "int")
def knownT (T : String) : Bool := T == "int" || T == "bool" || T == "str" || T == "tuple" || T == "list" || T == "dict"
def isiB (T : String) (x : D) : Bool := match tyD x with | some t => isTb t T | none => false
def isiD : List D → (D → Prop) → Prop
  | [x, .opq (.ty T)], Q => knownT T = true ∧ (tyD x).isSome = true ∧ Q (.bl (isiB T x))
  | _, _ => False
theorem kitB_all : ∀ t ∈ ["NoneType", "bool", "int", "str", "tuple", "list", "dict"], ∀ T ∈ ["int", "bool", "str", "tuple", "list", "dict"], kitB t T = some (isTb t T) := by decide +kernel
theorem tyD_mem {x : D} {t : String} (h : tyD x = some t) : t ∈ ["NoneType", "bool", "int", "str", "tuple", "list", "dict"] := by
  cases x <;> simp only [tyD, Option.some.injEq, reduceCtorEq] at h <;> subst h <;> simp
theorem RepB.tyx {W : WT} {K : Kn} {F H : Hp} {v : V} {x : D} {t : String} (h : RepB W K F H v x) (e : Same F H) (ht : tyD x = some t) : TyX K.K H v (.type t) := by
  cases x <;> simp only [tyD, Option.some.injEq, reduceCtorEq] at ht <;> subst ht
  · rw [h.non]; exact .base .non
  · rw [h.bl]; exact .base (.bl _)
  · rw [h.int]; exact .base (.int _)
  · rw [h.str]; exact .base (.str _)
  · obtain ⟨a, us, rfl, _, h1, h2⟩ := h.tup e
    rcases h1 with (h1 | ⟨o, h1⟩) | ⟨o, its, n, h1, h2, _⟩
    · exact .base (.tup h1)
    · exact .fTuple h1
    · exact .kTuple h1 h2
  · obtain ⟨a, us, rfl, h1, h2⟩ := h.lst e
    exact .base (.lst h1)
  · obtain ⟨a, us, rfl, h1, h2⟩ := h.dic e
    exact .base (.dK h1)
theorem c_isi : CallR X (.builtin "isinstance") (LCa B X.kn isiD) := callR_by fun vs H Q ⟨F, ds, Qd, e, dk, r, q, k⟩ => by
  unfold isiD at q
  split at q
  · rename_i x T
    obtain ⟨v, u, rfl, r1, r2⟩ := rb2 r
    obtain ⟨h1, h2, h3⟩ := q
    obtain ⟨t, ht⟩ := Option.isSome_iff_exists.mp h2
    have hu := r2.opq
    subst hu
    refine ⟨_, call_isi, v, .ty T, .type t, .type T, isTb t T, rfl, .ty T, r1.tyx e ht, kit_ty (kitB_all t (tyD_mem ht) T ?_), k.here e dk ?_ (.bl _)⟩
    · simp only [knownT, Bool.or_eq_true, beq_iff_eq] at h1
      rcases h1 with ((((h | h) | h) | h) | h) | h <;> subst h <;> simp
    · have : isiB T x = isTb t T := by unfold isiB; rw [ht]
      rw [← this]
      exact h3
  · exact q.elim

/-! repr of plain data -/
def reprD : List D → (D → Prop) → Prop
  | [x], Q => pl 64 x = true ∧ (toPy x).showable = true ∧ (toPy x).shown.length ≤ sizeLine ∧ Q (.str (toPy x).shown)
  | _, _ => False
theorem c_repr (hG : X.A.guards = some []) (hu : X.A.units + 65 < cLine) : CallR X (.builtin "repr") (LCa B X.kn reprD) := fun pins s σ H vs us Q I rx ⟨F, ds, Qd, e, dk, r, q, k⟩ => by
  unfold reprD at q
  split at q
  · rename_i x
    obtain ⟨v, rfl, r1⟩ := rb1 r
    obtain ⟨h1, h2, h3, h4⟩ := q
    obtain ⟨u, rfl, ru⟩ := vals1 rx
    have fin : Q (.str (toPy x).shown) H := k.here e dk h4 (.str _)
    have sh := pl_shape 64 x h1
    have refs : ∀ a, v = .ref a → wpAny (model X.prog X.w) X.A (call (.builtin "repr") [u]) (EP X pins σ Q) X.xe s := fun a hv => by
      subst hv
      cases ru
      obtain ⟨as, rd⟩ := Dp.reads I _ _ _ (r1.dp e h1) rfl
      refine PySem.repr_of_reads' rd h2 (PyData.noDict_hsm (PyData.hasDict_of_canLay _ sh.1)) hG (by omega) (fun _ _ z => z) (fun h' u tk hk => ?_) h3
      exact ⟨.str _, H, I.kept (t' := tk) hk, ⟨_, rfl⟩, fin⟩
    cases x with
    | non =>
      have := r1.non
      subst this
      cases ru
      exact PySem.P.repr_of_none ⟨.str _, H, I.tok _, ⟨_, rfl⟩, by simpa [toPy, PyData.shown] using fin⟩
    | bl b =>
      have := r1.bl
      subst this
      cases ru
      exact PySem.P.repr_of_bool ⟨.str _, H, I.tok _, ⟨_, rfl⟩, by simpa [toPy, PyData.shown] using fin⟩
    | int i =>
      have := r1.int
      subst this
      obtain ⟨t, rfl⟩ := ru
      exact PySem.P.repr_of_int (by simpa [toPy, PyData.showable] using h2) ⟨.str _, H, I.tok _, ⟨_, rfl⟩, by simpa [toPy, PyData.shown] using fin⟩
    | str i =>
      have := r1.str
      subst this
      obtain ⟨t, rfl⟩ := ru
      exact PySem.P.repr_of_str ⟨.str _, H, I.tok _, ⟨_, rfl⟩, by simpa [toPy, PyData.shown] using fin⟩ (by simpa [toPy, PyData.shown] using h3)
    | tup xs =>
      obtain ⟨a, us, hv, _⟩ := r1.tup e
      exact refs a hv
    | lst xs =>
      obtain ⟨a, us, hv, _⟩ := r1.lst e
      exact refs a hv
    | dic _ => simp [pl] at h1
    | obj _ _ => simp [pl] at h1
    | opq _ => simp [pl] at h1
  · exact q.elim

/-! text * int -/
def repS : D → D → (D → Prop) → Prop
  | .str x, .int k, Q => 1 ≤ k ∧ x.length * k.toNat ≤ sizeLine ∧ x.length ≠ 0 ∧ Q (.str (Txt.mul x k))
  | _, _, _ => False
theorem o_repS : OpR X (binaryOp .Mult) (LO2 B X.kn repS) := fun pins s σ H x y v u Q I rx ry ⟨F, a, b, Qd, e, dk, r1, r2, q, k⟩ => by
  unfold repS at q
  split at q
  · rename_i z n
    obtain ⟨h1, h2, h0, h3⟩ := q
    have e1 := r1.str
    have e2 := r2.int
    subst e1 e2
    obtain ⟨t, rfl⟩ := rx
    obtain ⟨t', rfl⟩ := ry
    have hn : n.toNat ≤ z.length * n.toNat := Nat.le_mul_of_pos_left _ (by omega)
    have hs : (sizeLine : Nat) < 2 ^ 62 := by decide
    have hb : (z.length : Int) ≤ (2 ^ 63 - 1) / n := by
      rw [Int.le_ediv_iff_mul_le (by omega)]
      have e3 : (z.length : Int) * n = ((z.length * n.toNat : Nat) : Int) := by
        rw [Int.natCast_mul, Int.toNat_of_nonneg (by omega)]
      rw [e3]
      have : z.length * n.toNat < 2 ^ 62 := by omega
      have h5 : ((z.length * n.toNat : Nat) : Int) < ((2 ^ 62 : Nat) : Int) := Int.ofNat_lt.mpr this
      have h6 : ((2 ^ 62 : Nat) : Int) ≤ 2 ^ 63 - 1 := by decide
      omega
    refine PySem.SB.mul ⟨?_, fun _ _ => by omega, fun _ _ => ?_⟩ fun t' tk => ⟨.str _, H, I.tok _, ⟨_, rfl⟩, k.here e dk h3 (.str _)⟩
    · have hlt : n.toNat < 2 ^ 62 := by omega
      simp only [Bool.or_eq_false_iff, decide_eq_false_iff_not]
      have h7 : (2 : Int) ^ 63 = 9223372036854775808 := by decide
      have h8 : (2 : Nat) ^ 62 = 4611686018427387904 := by decide
      omega
    · unfold PySem.Builtin.Str.tooLong
      exact decide_eq_false (by omega)
  · exact q.elim
end
end ND

/-! ND8: defs by data -/
namespace ND
open PySem PySem.Spec L2
open PyProof.Rows (envOfC)

def startD (n : Nat) (ds : List D) : List SV := ds.map SV.d ++ List.replicate (n - ds.length) .no
theorem rel_start {W : WT} {K : Kn} {F H : Hp} {N : List Str} {vs : List V} {ds : List D} (e : Same F H) (dk : DeckIn W F H) (r : Reps K F vs ds) : Rel ⟨W, F, H⟩ K (startD N.length ds) (L2.start N vs) F H := by
  refine ⟨Grow.refl e, dk, dk, ?_, fun _ => none, ⟨fun i j a z => (nomatch z), fun i a z => (nomatch z)⟩, fun i x v e1 e2 => ?_⟩
  · unfold startD L2.start
    simp [r.length]
  · unfold startD at e1
    unfold L2.start at e2
    by_cases hi : i < ds.length
    · rw [List.getElem?_append_left (by simpa using hi)] at e1
      rw [List.getElem?_append_left (by simpa [r.length] using hi)] at e2
      rw [List.getElem?_map] at e1 e2
      cases ed : ds[i]? with
      | none =>
        rw [ed] at e1
        cases e1
      | some d =>
        rw [ed] at e1
        obtain ⟨u, h1, h2⟩ := r.get ed
        rw [h1] at e2
        cases e1
        cases e2
        exact h2
    · rw [List.getElem?_append_right (by simpa using hi)] at e1
      rw [List.getElem?_append_right (by simpa [r.length] using hi)] at e2
      have h1 := List.eq_of_mem_replicate (List.mem_of_getElem? e1)
      have h2 := List.eq_of_mem_replicate (List.mem_of_getElem? e2)
      subst h1 h2
      exact True.intro
/-- behind a def's body -/
@[simp] def endsD (Q : D → Prop) : Ed := { nx := fun _ => Q .non, rt := Q, bk := fun _ => False, ct := fun _ => False }
section
variable {P : Program} {w : World} {K : PySem.W.Frag} {mg : Str → Option Value} {base : Heap} {x qual : Str} {st : Stmt} {f : Addr} {fd : FuncData} {N ps : List Str} {k : Nat} {sp : DSp} {g : WD → (Er → Prop) → GS} {T : List (Addr × Str)}
abbrev cxD (P : Program) (w : World) (K : PySem.W.Frag) (mg : Str → Option Value) (base : Heap) (N : List Str) (qual : Str) (st : Stmt) (f : Addr) (cdv : Value) (A : Around) (outer : List Env) (s : Shared) (H : Hp) (E : XK) : Cx :=
  cxOf (L2.CX P w) P w K mg base N qual (defScope st) f cdv A outer s H E
theorem body_run {cdv : Value} {A : Around} {outer : List Env} {s : Shared} {H : Hp} {E : XK} {W : WD} {F : Hp} {ds : List D} {vs : List V} {Qd : D → Prop} {Q : VK} {R : Er → Prop} (hb : SDs ⟨⟨W, T⟩, F, H⟩ (cxD P w K mg base N qual st f cdv A outer s H E) (defBody st) (g W R))
    (e : Same F H) (dk : DeckIn ⟨W, T⟩ F H) (r : Reps ⟨K, mg⟩ F vs ds) (q : g W R (endsD Qd) (startD N.length ds)) (kf : Fin ⟨⟨W, T⟩, F, H⟩ ⟨K, mg⟩ F H Qd Q) :
    ∃ t, PSs (cxD P w K mg base N qual st f cdv A outer s H E) (defBody st) t ∧ t { nx := fun _ H' => Q .non H', rt := Q } (L2.start N vs) H :=
  ⟨_, hb.run, startD N.length ds, F, endsD Qd, rel_start e dk r, q, ⟨fun σ s F' H' _ R' qn => kf .non qn F' H' .non R'.base R'.deck .non, fun d v F' H' g' dk' r' qd => kf d qd F' H' v g' dk' r', fun _ _ _ _ _ _ z => z.elim, fun _ _ _ _ _ _ z => z.elim⟩⟩
theorem okD (F : Fun K x qual st f fd) (S : FnScope N ps (defScope st)) (hlen : ∀ W ds Q R, sp W ds Q R → ds.length = ps.length)
    (body : ∀ (cdv : Value) (A : Around) (outer : List Env) (s : Shared) (H : Hp) (E : XK) (W : WD) (F : Hp) (R : Er → Prop), Room k (A.deeper (envOfC qual (defScope st) s.heap.objs.size f cdv)) → FinE ⟨W, T⟩ ⟨K, mg⟩ F H R E →
      PassesOwn (model P w) (cxD P w K mg base N qual st f cdv A outer s H E).A (cxD P w K mg base N qual st f cdv A outer s H E).env (cxD P w K mg base N qual st f cdv A outer s H E).xe →
      Passes (L2.CX P w) (cxD P w K mg base N qual st f cdv A outer s H E) E → SDs ⟨⟨W, T⟩, F, H⟩ (cxD P w K mg base N qual st f cdv A outer s H E) (defBody st) (g W R))
    (law : ∀ W ds Q R, sp W ds Q R → g W R (endsD Q) (startD N.length ds)) : FnOk P w K mg base (L2.CX P w) (k + 1) f fd ps (liftSp ⟨K, mg⟩ T sp) := by
  refine F.okX S (fun vs H Q E ⟨W, F, ds, Qd, Rd, h1, h2, h3, h4, _⟩ => h3.length.trans (hlen _ _ _ _ h4)) fun cdv A outer s H vs Q E hr ⟨W, F, ds, Qd, Rd, h1, h2, h3, h4, h5, h6⟩ => ?_
  exact body_run (body cdv A outer s H E W F Rd hr h6 (passes_of rfl) (passes_call (takes_of rfl rfl rfl rfl) fun _ _ _ _ z => z)) h1 h2 h3 (law W ds Qd Rd h4) h5
theorem okG (F : Fun K x qual st f fd) (S : FnScope N ps (defScope st)) (hlen : ∀ W ds Q R, sp W ds Q R → ds.length = ps.length)
    (body : ∀ (cdv : Value) (A : Around) (outer : List Env) (s : Shared) (H : Hp) (E : XK) (W : WD) (F : Hp) (R : Er → Prop), (A.deeper (envOfC qual (defScope st) s.heap.objs.size f cdv)).guards = some [] → Room k (A.deeper (envOfC qual (defScope st) s.heap.objs.size f cdv)) → FinE ⟨W, T⟩ ⟨K, mg⟩ F H R E →
      PassesOwn (model P w) (cxD P w K mg base N qual st f cdv A outer s H E).A (cxD P w K mg base N qual st f cdv A outer s H E).env (cxD P w K mg base N qual st f cdv A outer s H E).xe →
      Passes (L2.CX P w) (cxD P w K mg base N qual st f cdv A outer s H E) E → SDs ⟨⟨W, T⟩, F, H⟩ (cxD P w K mg base N qual st f cdv A outer s H E) (defBody st) (g W R))
    (law : ∀ W ds Q R, sp W ds Q R → g W R (endsD Q) (startD N.length ds)) : FnG P w K mg base (k + 1) f fd ps (liftSp ⟨K, mg⟩ T sp) := by
  obtain ⟨oc, od, kV, doc, pm, an, cdv, ct, osl, rfl, lk, hcd⟩ := F.ex
  refine fn_ofG lk hcd S (fun vs H Q E ⟨W, F, ds, Qd, Rd, h1, h2, h3, h4, _⟩ => h3.length.trans (hlen _ _ _ _ h4)) fun A outer s H vs Q E hG hr ⟨W, F, ds, Qd, Rd, h1, h2, h3, h4, h5, h6⟩ => ?_
  exact body_run (body cdv A outer s H E W F Rd hG hr h6 (passes_of rfl) (passes_call (takes_of rfl rfl rfl rfl) fun _ _ _ _ z => z)) h1 h2 h3 (law W ds Qd Rd h4) h5
end

/-- the def of the name x keeps sp, at the level k -/
structure OkD (P : Program) (w : World) (K : PySem.W.Frag) (mg : Str → Option Value) (base : Heap) (T : List (Addr × Str)) (x : Str) (st : Stmt) (k : Nat) (ps : List Str) (sp : DSp) : Prop where
  ex : ∃ f fd, mg x = some (.ref f) ∧ Fun K x x st f fd ∧ FnOk P w K mg base (L2.CX P w) k f fd ps (liftSp ⟨K, mg⟩ T sp)
structure OkG (P : Program) (w : World) (K : PySem.W.Frag) (mg : Str → Option Value) (base : Heap) (T : List (Addr × Str)) (x : Str) (st : Stmt) (k : Nat) (ps : List Str) (sp : DSp) : Prop where
  ex : ∃ f fd, mg x = some (.ref f) ∧ Fun K x x st f fd ∧ FnG P w K mg base k f fd ps (liftSp ⟨K, mg⟩ T sp)
/-- how the def st binds by position, by keyword -/
abbrev BindsP (x : Str) (st : Stmt) (ps : List Str) : Prop := ∀ (kV doc pm : Value) (an : Option Addr) (cdv ct : Value) (us : List Value), us.length = ps.length → bindArgs (PySem.W.fnOf x x (defArgs st) (defBody st) (defScope st) .none kV doc pm an cdv ct) ⟨us, []⟩ = pure (ps.zip us)
abbrev BindsKw (x : Str) (st : Stmt) (ps ks : List Str) (n m : Nat) (pm : List Nat) : Prop := ∀ (kV doc pmv : Value) (an : Option Addr) (cdv ct : Value) (us ws : List Value), us.length = n → ws.length = m →
  bindArgs (PySem.W.fnOf x x (defArgs st) (defBody st) (defScope st) .none kV doc pmv an cdv ct) ⟨us, ks.zip ws⟩ = pure (ps.zip (permA n m pm us ws))
section
variable {B : Bs} {X : Cx} {k : Nat} {ps : List Str} {sp : DSp} {R : Er → Prop} {E : XK} {x : Str} {st : Stmt} {p pos : Pos} {e : Expr} {es : List Expr} {fs fk : GA} {ks : List Str} {kws : List Keyword} {n m : Nat} {pm : List Nat}
theorem ed_o (O : OkD X.prog X.w X.K X.mg X.base B.W.T x st k ps sp) (b : BindsP x st ps) (hr : Room k X.A) (hx : Passes (L2.CX X.prog X.w) X E) (hE : FinE B.W X.kn B.F B.H R E) (ha : AD B X (e :: es) fs) (hg : Gl X x := by rfl) (hdb : (x == ("__debug__" : Str)) = false := by decide)
    (he : starEach (e :: es) X.env = (false, eval e X.env) :: starEach es X.env := by rfl) (hpl : (backTo pos (starEach es X.env)).any (·.1) = false := by rfl) : ED B X (.Call (.Name x p) (e :: es) [] pos) (gCall sp B.W.p R fs) := by
  obtain ⟨f, fd, hm, F, G⟩ := O.ex
  exact ed_call G hr hg hm F.kp (F.binds b) hx hE ha hdb he hpl
theorem ed_g (O : OkG X.prog X.w X.K X.mg X.base B.W.T x st k ps sp) (b : BindsP x st ps) (hG : X.A.guards = some []) (hr : Room k X.A) (hx : Passes (L2.CX X.prog X.w) X E) (hE : FinE B.W X.kn B.F B.H R E) (ha : AD B X (e :: es) fs) (hg : Gl X x := by rfl) (hdb : (x == ("__debug__" : Str)) = false := by decide)
    (he : starEach (e :: es) X.env = (false, eval e X.env) :: starEach es X.env := by rfl) (hpl : (backTo pos (starEach es X.env)).any (·.1) = false := by rfl) : ED B X (.Call (.Name x p) (e :: es) [] pos) (gCall sp B.W.p R fs) := by
  obtain ⟨f, fd, hm, F, G⟩ := O.ex
  exact ed_callG G hG hr hg hm F.kp (F.binds b) hx hE ha hdb he hpl
theorem kb_of {K : PySem.W.Frag} {f : Addr} {fd : FuncData} (F : Fun K x x st f fd) (hp : ps ≠ []) (b : BindsKw x st ps ks n m pm) : KBinds K fd ps ks (permA n m pm) (permA n m pm) := by
  obtain ⟨oc, od, kV, doc, pmv, an, cdv, ct, osl, rfl, lk, hcd⟩ := F.ex
  exact kb_perm hp fun us ws h1 h2 => b kV doc pmv an cdv ct us ws h1 h2
theorem ed_ok (O : OkD X.prog X.w X.K X.mg X.base B.W.T x st k ps sp) (hp : ps ≠ []) (b : BindsKw x st ps ks n m pm) (hr : Room k X.A) (hx : Passes (L2.CX X.prog X.w) X E) (hE : FinE B.W X.kn B.F B.H R E) (ha : AD B X (e :: es) fs) (hkw : KD B X kws fk) (hg : Gl X x := by rfl)
    (hall : (backToKw pos (keywordEach kws X.env)).all (·.1.isSome) = true := by rfl) (hks : (backToKw pos (keywordEach kws X.env)).filterMap (·.1) = ks := by rfl)
    (hdb : (x == ("__debug__" : Str)) = false := by decide) (he : starEach (e :: es) X.env = (false, eval e X.env) :: starEach es X.env := by rfl)
    (hpl : ((backTo pos (starEach (e :: es) X.env)).any (·.1) || (backToKw pos (keywordEach kws X.env)).any (·.1.isNone)) = false := by rfl) : ED B X (.Call (.Name x p) (e :: es) kws pos) (gCallK sp n m pm B.W.p R fs fk) := by
  obtain ⟨f, fd, hm, F, G⟩ := O.ex
  exact ed_callK G hr hg hm F.kp (kb_of F hp b) hx hE ha hkw hall hks hdb he hpl
theorem ed_ok0 (O : OkD X.prog X.w X.K X.mg X.base B.W.T x st k ps sp) (hp : ps ≠ []) (b : BindsKw x st ps ks n m pm) (hr : Room k X.A) (hx : Passes (L2.CX X.prog X.w) X E) (hE : FinE B.W X.kn B.F B.H R E) (hkw : KD B X kws fk) (hg : Gl X x := by rfl)
    (hall : (backToKw pos (keywordEach kws X.env)).all (·.1.isSome) = true := by rfl) (hks : (backToKw pos (keywordEach kws X.env)).filterMap (·.1) = ks := by rfl)
    (hdb : (x == ("__debug__" : Str)) = false := by decide)
    (hpl : ((backTo pos (starEach [] X.env)).any (·.1) || (backToKw pos (keywordEach kws X.env)).any (·.1.isNone)) = false := by rfl) : ED B X (.Call (.Name x p) [] kws pos) (gCallK sp n m pm B.W.p R gNil fk) := by
  obtain ⟨f, fd, hm, F, G⟩ := O.ex
  exact ed_callK0 G hr hg hm F.kp (kb_of F hp b) hx hE hkw hall hks hdb hpl
end
end ND

/-! ND9: the deck: making it, drawing from it -/
namespace ND
open PySem PySem.Spec L2
open PyProof.Rows (envOfC)

theorem nbMax : bootBuiltins "max" = some (.builtin "max") := by decide +kernel
theorem nbMin : bootBuiltins "min" = some (.builtin "min") := by decide +kernel
theorem nbInt : bootBuiltins "int" = some (.type "int") := by decide +kernel
theorem nbBool : bootBuiltins "bool" = some (.type "bool") := by decide +kernel
theorem nbTuple : bootBuiltins "tuple" = some (.type "tuple") := by decide +kernel
theorem nbList : bootBuiltins "list" = some (.type "list") := by decide +kernel
theorem nbDict : bootBuiltins "dict" = some (.type "dict") := by decide +kernel
theorem nbStr : bootBuiltins "str" = some (.type "str") := by decide +kernel
theorem nbLen : bootBuiltins "len" = some (.builtin "len") := by decide +kernel
theorem nbAbs : bootBuiltins "abs" = some (.builtin "abs") := by decide +kernel
theorem nbIsi : bootBuiltins "isinstance" = some (.builtin "isinstance") := by decide +kernel
theorem nbRepr : bootBuiltins "repr" = some (.builtin "repr") := by decide +kernel

theorem nosl {x : Str} {j : Nat} {p : Pos} : NoSl (.Constant (.str x) j p) := fun _ _ => rfl
abbrev iM (t : TA) : TE := tCB (fun xs H Q => (∃ i, xs = [V.int i] ∧ Q (V.int i) H) ∨ ∃ k, xs = [V.bl k] ∧ Q (V.int (if k = true then 1 else 0)) H) t
abbrev aP (a b : TE) : TE := tOp (rI0 fun i j => V.int (i + j)) a b
abbrev mP (a b : TE) : TE := tOp (rI CMul fun i j => V.int (i * j)) a b
abbrev rP (a b : TE) : TE := tOp (rI (fun _ j => 0 < j) fun i j => V.int (i % j)) a b
abbrev fP (a b : TE) : TE := tOp (rI CDivW fun i j => V.int (i / j)) a b
abbrev dG (k : Str) : TE := tDGet (tVar 0) (tC (V.str k))
abbrev tDraw6 : TS :=
  tSeq (tAsg (rP (iM (tCons (mP (tVar 2) (tC (V.int 40692))) tNil)) (tC (V.int 2147483647))) (gName 2))
  (tRet (rP (iM (tCons (fP (tVar 2) (tC (V.int 64))) tNil)) (tVar 1)))
abbrev tDraw5 : TS :=
  tSeq (tAsg (rP (iM (tCons (aP (aP (mP (tVar 2) (tVar 2)) (mP (tC (V.int 52774)) (dG "draws"))) (tC (V.int 17))) tNil)) (tC (V.int 2147483399))) (gName 2)) tDraw6
abbrev tDraw4 : TS :=
  tSeq (tAsg (rP (iM (tCons (aP (mP (tVar 2) (tC (V.int 40014))) (tC (V.int 91))) tNil)) (tC (V.int 2147483563))) (gName 2)) tDraw5
abbrev tDraw3 (K : PySem.W.Frag) : TS :=
  tIfS (tTest (tOp (rNeD K) (dG "left") (tLst tNil)))
    (tSeq (tAsg (tBM0 K "list" rPop (dG "left")) (gName 3))
      (tSeq (tIfS (tTest (tOp (rI0 fun i j => V.bl (decide (j ≤ i))) (tVar 3) (tOp (rI CPow fun i j => V.int (i ^ j.toNat)) (tC (V.int 10)) (tC (V.int 18)))))
        (tSeq (tDrop (tBM K "list" rAppend (dG "left") (tCons (fP (tVar 3) (tCB (fun xs H Q => ∃ i j, xs = [V.int i, V.int j] ∧ Q (V.int (if j > i then j else i)) H) (tCons (tC (V.int 2)) (tCons (tVar 1) tNil)))) tNil)))
          (tRet (rP (iM (tCons (tVar 3) tNil)) (tVar 1))))
        tNext)
      (tAsg (aP (tVar 2) (rP (iM (tCons (tVar 3) tNil)) (tC (V.int 2147483629)))) (gName 2))))
    tNext
abbrev tDraw (c : Int) (K : PySem.W.Frag) : TS :=
  tSeq (sDPut (tVar 0) (tC (V.str "draws")) (aP (dG "draws") (tC (V.int 1))))
  (tSeq (tAsg (aP (dG "mixed") (mP (tC (V.int c)) (dG "draws"))) (gName 2))
  (tSeq (tDraw3 K) tDraw4))

theorem kl_d : (Sum.inr (PySem.Str.ofString "left") : Key) ≠ Sum.inr (PySem.Str.ofString "draws") := by decide +kernel
theorem km_d : (Sum.inr (PySem.Str.ofString "mixed") : Key) ≠ Sum.inr (PySem.Str.ofString "draws") := by decide +kernel
theorem kl_m : (Sum.inr (PySem.Str.ofString "left") : Key) ≠ Sum.inr (PySem.Str.ofString "mixed") := by decide +kernel
section
variable {H : Hp} {d l : Addr} {m n : Int} {ns : List Int}
theorem dg_left (h : H d = some (deckO l m n)) : DGet H d (.str "left") (some (.ref l)) := .inl ⟨_, .inr "left", .inl h, rfl, by rw [valV_pos rfl]⟩
theorem dg_mixed (h : H d = some (deckO l m n)) : DGet H d (.str "mixed") (some (.int m)) := .inl ⟨_, .inr "mixed", .inl h, rfl, by rw [valV_neg kl_m, valV_pos rfl]⟩
theorem dg_draws (h : H d = some (deckO l m n)) : DGet H d (.str "draws") (some (.int n)) := .inl ⟨_, .inr "draws", .inl h, rfl, by rw [valV_neg kl_d, valV_neg km_d, valV_pos rfl]⟩
theorem dp_draws (h : H d = some (deckO l m n)) (k : Int) : DPut H d (.str "draws") (.int k) (upd H d (deckO l m k)) := .inl ⟨_, .inr "draws", h, rfl, by show 3 < sizeLine; decide, by
  have e : putK [((Sum.inr "left" : Key), V.ref l), (Sum.inr "mixed", V.int m), (Sum.inr "draws", V.int n)] (Sum.inr "draws") (V.int k) = [((Sum.inr "left" : Key), V.ref l), (Sum.inr "mixed", V.int m), (Sum.inr "draws", V.int k)] := by
    unfold putK
    simp only [List.any_cons, decide_true, Bool.true_or, Bool.or_true, List.any_nil, if_true, List.map_cons, List.map_nil, kl_d, km_d, if_false]
  rw [e]
  rfl⟩
theorem dp_ints {K : PySem.W.Frag} : ∀ ns : List Int, DpAll K H (ns.map V.int) (ns.map PyData.int)
  | [] => .nil
  | n :: ns => .cons (.int n) (dp_ints ns)
theorem ints_lay : ∀ ns : List Int, PyData.canLayAll0 (ns.map PyData.int) = true ∧ PyData.depthAll (ns.map PyData.int) ≤ 1
  | [] => by simp [PyData.canLayAll0, PyData.depthAll]
  | n :: ns => by
    obtain ⟨h1, h2⟩ := ints_lay ns
    simp only [List.map_cons, PyData.canLayAll0, PyData.depthAll, PyData.canLay0, PyData.depth, Bool.true_and]
    exact ⟨h1, Nat.max_le.mpr ⟨Nat.zero_le _, h2⟩⟩
theorem ints_shaped (ns : List Int) : SeqAt.shaped (.list (ns.map PyData.int)) = true := by
  obtain ⟨h1, h2⟩ := ints_lay ns
  show ((PyData.list (ns.map PyData.int)).canLay0 && decide ((PyData.list (ns.map PyData.int)).depth ≤ 64)) = true
  have d1 : (PyData.list (ns.map PyData.int)).canLay0 = true := by simpa [PyData.canLay0] using h1
  have d2 : (PyData.list (ns.map PyData.int)).depth ≤ 64 := by
    simp only [PyData.depth]
    exact Nat.le_trans (Nat.succ_le_succ h2) (by decide)
  rw [d1, decide_eq_true d2]
  rfl
theorem ints_empty : ∀ ns : List Int, PyData.eqv (.list (ns.map PyData.int)) (.list []) = ns.isEmpty
  | [] => by simp [PyData.eqv, PyData.eqvAll]
  | n :: ns => by simp [PyData.eqv, PyData.eqvAll]

/-- what the deck has become -/
structure DkAt (d l : Addr) (H H' : Hp) (m n : Int) (ns : List Int) : Prop where
  hd : H' d = some (deckO l m n)
  hl : H' l = some (.lst (ns.map V.int))
  kp : ∀ a o, H a = some o → a ≠ d → a ≠ l → H' a = some o
  st : ∀ a, H a ≠ none → H' a ≠ none
  nt : ∀ a ps, H' a = some (.tbl ps) → H a = some (.tbl ps)
theorem DkAt.grow {F H' : Hp} {m' n' : Int} {ns' : List Int} {T : List (Addr × Str)} (h0 : DeckIn ⟨some (d, l), T⟩ F H) (e : Same F H) (h : DkAt d l H H' m' n' ns') (hl : ns'.length ≤ 63) (h1 : 0 ≤ m') (h2 : m' < 2147483587) : Grow ⟨some (d, l), T⟩ F H F H' ∧ DeckIn ⟨some (d, l), T⟩ F H' := by
  have z0 := h0.dk _ rfl
  have zd : ∀ a o, H a = some o → (∀ ks, o ≠ .dK ks) → (∀ xs, o ≠ .lst xs) → H' a = some o := fun a o q n1 n2 => by
    obtain ⟨_, _, _, e1, e2, _⟩ := z0.st
    refine h.kp a o q (fun z => ?_) (fun z => ?_)
    · rw [z, show H d = _ from e1] at q
      exact n1 _ (Option.some.inj q).symm
    · rw [z, show H l = _ from e2] at q
      exact n2 _ (Option.some.inj q).symm
  refine ⟨⟨Same.refl F, fun a o q => h.kp a o (e a o q) (fun z => ?_) (fun z => ?_), fun a o q w _ => h.kp a o q (fun z => w (.inl ⟨_, rfl, .inl z⟩)) fun z => w (.inl ⟨_, rfl, .inr z⟩), fun a q _ => q, h.st⟩, fun p hp => ?_, h0.tf, fun x hx => ?_, h0.nf, fun a ps e => h0.ot a ps (h.nt a ps e)⟩
  · have := z0.fd
    rw [← show a = d from z, q] at this
    cases this
  · have := z0.fl
    rw [← show a = l from z, q] at this
    cases this
  · cases hp
    exact ⟨z0.fd, z0.fl, z0.ne, ns', m', n', h.hd, h.hl, hl, h1, h2⟩
  · obtain ⟨ps, a1, a2, a3⟩ := h0.tb x hx
    refine ⟨ps, zd _ _ a1 (fun _ z => nomatch z) (fun _ z => nomatch z), a2, fun pos cv hc => ?_⟩
    obtain ⟨c, b1, b2⟩ := a3 pos cv hc
    exact ⟨c, b1, zd _ _ b2 (fun _ z => nomatch z) (fun _ z => nomatch z)⟩
theorem mod_lt' {a b : Int} (h : 0 < b) : 0 ≤ a % b ∧ a % b < b := ⟨Int.emod_nonneg _ (by omega), Int.emod_lt_of_pos _ h⟩
theorem small64 {a : Int} (h1 : 0 ≤ a) (h2 : a < 4294967296) : -(2 ^ 64) < a ∧ a < 2 ^ 64 := by
  have e : (2 : Int) ^ 64 = 18446744073709551616 := by decide
  omega
theorem draw6 {D : Ends} {k z : Int} {y : Option V} (hz : 0 ≤ z ∧ z < 2147483399) (hk : 0 < k) (hQ : ∀ r, 0 ≤ r → r < k → D.rt (.int r) H) : tDraw6 D [some (.ref d), some (.int k), some (.int z), y] H := by
  refine ⟨_, rfl, _, _, rfl, rfl, .inl (small64 hz.1 (by omega)), .inl ⟨_, rfl, _, _, rfl, rfl, (by show (0 : Int) < 2147483647; decide), ?_⟩⟩
  refine ⟨_, rfl, _, _, rfl, rfl, ⟨by decide, by decide⟩, .inl ⟨_, rfl, _, rfl, _, _, rfl, rfl, hk, ?_⟩⟩
  exact hQ _ (mod_lt' hk).1 (mod_lt' hk).2
theorem draw5 {D : Ends} {k z : Int} {y : Option V} (hd : H d = some (deckO l m n)) (hz : 0 ≤ z ∧ z < 2147483563) (hk : 0 < k) (hQ : ∀ r, 0 ≤ r → r < k → D.rt (.int r) H) : tDraw5 D [some (.ref d), some (.int k), some (.int z), y] H :=
  ⟨_, rfl, _, rfl, _, _, rfl, rfl, .inl (small64 hz.1 (by omega)), _, rfl, _, _, rfl, dg_draws hd, _, _, rfl, rfl, .inl (small64 (by decide) (by decide)), _, _, rfl, rfl, _, _, rfl, rfl, .inl ⟨_, rfl, _, _, rfl, rfl, (by show (0 : Int) < 2147483399; decide), draw6 (mod_lt' (by decide)) hk hQ⟩⟩
theorem draw4 {D : Ends} {k z : Int} {y : Option V} (hd : H d = some (deckO l m n)) (hk : 0 < k) (hQ : ∀ r, 0 ≤ r → r < k → D.rt (.int r) H) : tDraw4 D [some (.ref d), some (.int k), some (.int z), y] H :=
  ⟨_, rfl, _, _, rfl, rfl, .inr (small64 (by decide) (by decide)), _, _, rfl, rfl, .inl ⟨_, rfl, _, _, rfl, rfl, (by show (0 : Int) < 2147483563; decide), draw5 hd (mod_lt' (by decide)) hk hQ⟩⟩
theorem draw_law {K : PySem.W.Frag} {c : Int} {D : Ends} {k : Int} {y1 y2 : Option V} (hc : -(2 ^ 64) < c ∧ c < 2 ^ 64) (hd : H d = some (deckO l m n)) (hl : H l = some (.lst (ns.map V.int))) (hdl : d ≠ l) (hn : ns.length ≤ 63) (hk : 0 < k) (hk2 : k < 2 ^ 62)
    (hQ : ∀ H' n' ns' r, DkAt d l H H' m n' ns' → ns'.length ≤ 63 → 0 ≤ r → r < k → D.rt (.int r) H') : tDraw c K D [some (.ref d), some (.int k), y1, y2] H := by
  refine ⟨_, rfl, _, _, rfl, dg_draws hd, _, _, rfl, rfl, _, rfl, _, _, rfl, dp_draws hd (n + 1), ?_⟩
  have hd1 : upd H d (deckO l m (n + 1)) d = some (deckO l m (n + 1)) := upd_same
  have hl1 : upd H d (deckO l m (n + 1)) l = some (.lst (ns.map V.int)) := by rw [upd_ne hdl.symm]; exact hl
  have k1 : ∀ a o, H a = some o → a ≠ d → a ≠ l → upd H d (deckO l m (n + 1)) a = some o := fun a o q z _ => by rw [upd_ne z]; exact q
  have s1 : ∀ a, H a ≠ none → upd H d (deckO l m (n + 1)) a ≠ none := fun a q => upd_keep q
  have t1 : ∀ a ps, upd H d (deckO l m (n + 1)) a = some (.tbl ps) → H a = some (.tbl ps) := ot_upd (by intro _ z; cases z)
  generalize upd H d (deckO l m (n + 1)) = H1 at hd1 hl1 k1 s1 t1 ⊢
  refine ⟨_, rfl, _, _, rfl, dg_mixed hd1, _, rfl, _, _, rfl, dg_draws hd1, _, _, rfl, rfl, .inl hc, _, _, rfl, rfl, ?_⟩
  generalize m + c * (n + 1) = z
  refine ⟨_, rfl, _, _, rfl, dg_left hd1, Nat.zero_le _, fun p hp => ?_⟩
  have npd : d ≠ p := ne_of_none hd1 hp
  have npl : l ≠ p := ne_of_none hl1 hp
  have hd2 : upd H1 p (.lst []) d = some (deckO l m (n + 1)) := by rw [upd_ne npd]; exact hd1
  have hl2 : upd H1 p (.lst []) l = some (.lst (ns.map V.int)) := by rw [upd_ne npl]; exact hl1
  have k2 : ∀ a o, H a = some o → a ≠ d → a ≠ l → upd H1 p (.lst []) a = some o := fun a o q z z2 => by
    have w := k1 a o q z z2
    rw [upd_ne (ne_of_none w hp)]
    exact w
  have s2 : ∀ a, H a ≠ none → upd H1 p (.lst []) a ≠ none := fun a q => upd_keep (s1 a q)
  have hp2 : upd H1 p (.lst []) p = some (.lst []) := upd_same
  have t2 : ∀ a ps, upd H1 p (.lst []) a = some (.tbl ps) → H a = some (.tbl ps) := fun a ps e => t1 a ps (ot_upd (by intro _ z; cases z) a ps e)
  generalize upd H1 p (.lst []) = H2 at hd2 hl2 k2 s2 hp2 t2 ⊢
  refine ⟨.list (ns.map PyData.int), .list [], .lst (SqL.of hl2) (dp_ints ns), .lst (SqL.of hp2) .nil, ints_shaped ns, by decide +kernel, _, rfl, ?_⟩
  rw [ints_empty]
  cases hns : ns.isEmpty with
  | true => exact draw4 hd2 hk fun r h1 h2 => hQ H2 (n + 1) ns r ⟨hd2, hl2, k2, s2, t2⟩ hn h1 h2
  | false =>
    have hne : ns ≠ [] := by
      intro z
      rw [z] at hns
      cases hns
    obtain ⟨cs, cell, rfl⟩ : ∃ cs cell, ns = cs ++ [cell] := ⟨ns.dropLast, ns.getLast hne, (List.dropLast_concat_getLast hne).symm⟩
    have hcs : cs.length + 1 ≤ 63 := by simpa using hn
    have e0 : ((cs ++ [cell]).map V.int).dropLast = cs.map V.int := by simp
    refine ⟨_, rfl, _, _, rfl, dg_left hd2, .inl ⟨rfl, _, SqL.of hl2⟩, _, _, .int cell, rfl, rfl, hl2, by simp, ?_⟩
    rw [e0]
    have hd3 : upd H2 l (.lst (cs.map V.int)) d = some (deckO l m (n + 1)) := by rw [upd_ne hdl]; exact hd2
    have hl3 : upd H2 l (.lst (cs.map V.int)) l = some (.lst (cs.map V.int)) := upd_same
    have k3 : ∀ a o, H a = some o → a ≠ d → a ≠ l → upd H2 l (.lst (cs.map V.int)) a = some o := fun a o q z z2 => by rw [upd_ne z2]; exact k2 a o q z z2
    have s3 : ∀ a, H a ≠ none → upd H2 l (.lst (cs.map V.int)) a ≠ none := fun a q => upd_keep (s2 a q)
    have t3 : ∀ a ps, upd H2 l (.lst (cs.map V.int)) a = some (.tbl ps) → H a = some (.tbl ps) := fun a ps e => t2 a ps (ot_upd (by intro _ z; cases z) a ps e)
    generalize upd H2 l (.lst (cs.map V.int)) = H3 at hd3 hl3 k3 s3 t3 ⊢
    refine ⟨_, rfl, _, _, rfl, rfl, ⟨by decide, by decide, by decide⟩, _, _, rfl, rfl, _, rfl, ?_⟩
    refine ite2 (fun hbig => ?_) (fun hbig => ?_)
    · skip
      have hmax : 0 < (if k > 2 then k else 2) ∧ (if k > 2 then k else 2) < 2 ^ 62 := by
        have e62 : (2 : Int) ^ 62 = 4611686018427387904 := by decide
        rw [e62] at hk2 ⊢
        split <;> omega
      refine ⟨_, rfl, _, _, rfl, dg_left hd3, .inl ⟨rfl, _, SqL.of hl3⟩, _, rfl, _, rfl, _, _, rfl, _, _, rfl, rfl, ⟨hmax.1, ?_⟩, _, _, _, rfl, rfl, hl3, by rw [List.length_map]; exact Nat.lt_of_le_of_lt (by omega : cs.length ≤ 63) (by decide), ?_⟩
      · have h9 : (if k > 2 then k else 2).natAbs < 2 ^ 62 := by
          have e62 : (2 : Int) ^ 62 = 4611686018427387904 := by decide
          have f62 : (2 : Nat) ^ 62 = 4611686018427387904 := by decide
          rw [e62] at hmax
          rw [f62]
          omega
        exact Nat.lt_of_le_of_lt (PySem.W.mg_log (k := 61) h9) (by decide)
      · refine ⟨_, rfl, .inl ⟨_, rfl, _, rfl, _, _, rfl, rfl, hk, ?_⟩⟩
        refine hQ _ (n + 1) (cs ++ [cell / (if k > 2 then k else 2)]) _ ⟨?_, ?_, fun a o q z z2 => ?_, fun a q => upd_keep (s3 a q), fun a ps e => t3 a ps (ot_upd (by intro _ z; cases z) a ps e)⟩ (by simpa using hcs) (mod_lt' hk).1 (mod_lt' hk).2
        · rw [upd_ne hdl]; exact hd3
        · rw [upd_same]; simp
        · rw [upd_ne z2]; exact k3 a o q z z2
    · refine ⟨_, rfl, _, rfl, .inl ⟨_, rfl, _, _, rfl, rfl, (by show (0 : Int) < 2147483629; decide), _, _, rfl, rfl, ?_⟩⟩
      exact draw4 hd3 hk fun r h1 h2 => hQ H3 (n + 1) cs r ⟨hd3, hl3, k3, s3, t3⟩ (by omega) h1 h2
end
/-- what drawing keeps -/
def spDraw : DSp := fun W ds Q _ => ∃ d l k, W = some (d, l) ∧ ds = [.opq (.ref d), .int k] ∧ 0 < k ∧ k < 2 ^ 62 ∧ ∀ r, 0 ≤ r → r < k → Q (.int r)
theorem okDraw {P : Program} {w : World} {K : PySem.W.Frag} {mg : Str → Option Value} {base : Heap} {x qual : Str} {st : Stmt} {f : Addr} {fd : FuncData} {N ps : List Str} {c : Int} {T : List (Addr × Str)} (F : Fun K x qual st f fd) (S : FnScope N ps (defScope st)) (hN : N.length = 4) (hp : ps.length = 2) (hc : -(2 ^ 64) < c ∧ c < 2 ^ 64)
    (body : ∀ (cdv : Value) (A : Around) (outer : List Env) (s : Shared) (H : Hp) (E : XK), Room 0 (A.deeper (envOfC qual (defScope st) s.heap.objs.size f cdv)) → PSs (cxD P w K mg base N qual st f cdv A outer s H E) (defBody st) (tDraw c K)) : FnOk P w K mg base (L2.CX P w) 1 f fd ps (liftSp ⟨K, mg⟩ T spDraw) := by
  refine F.okX S (fun vs H Q E ⟨W, F, ds, Qd, Rd, h1, h2, h3, ⟨d, l, k, _, h4, _⟩, _⟩ => ?_) fun cdv A outer s H vs Q E hr ⟨W, F, ds, Qd, Rd, h1, h2, h3, ⟨d, l, k, hW, hds, hk, hk2, hq⟩, h5, h6⟩ => ?_
  · rw [h3.length, h4, hp]
    rfl
  · refine ⟨_, body cdv A outer s H E hr, ?_⟩
    subst hds hW
    obtain ⟨v1, v2, rfl, r1, r2⟩ : ∃ v1 v2, vs = [v1, v2] ∧ Rep ⟨K, mg⟩ F v1 (.opq (.ref d)) ∧ Rep ⟨K, mg⟩ F v2 (.int k) := by
      cases h3 with
      | cons a t =>
        cases t with
        | cons b t =>
          cases t
          exact ⟨_, _, rfl, a, b⟩
    cases r1
    cases r2
    have dk := h2.dk _ rfl
    obtain ⟨ns, m, n, e1, e2, e3, e4, e5⟩ := dk.st
    have es : L2.start N [V.ref d, V.int k] = [some (.ref d), some (.int k), none, none] := by
      unfold L2.start
      rw [hN]
      rfl
    rw [es]
    exact draw_law hc e1 e2 dk.ne e3 hk hk2 fun H' n' ns' r z hl hr0 hr1 => by
      obtain ⟨g, dk'⟩ := z.grow h2 h1 hl e4 e5
      exact h5 _ (hq r hr0 hr1) F H' _ g dk' (.int r)
end ND

/-! ND10: making the deck; the law's own def -/
namespace ND
open PySem PySem.Spec L2
open PyProof.Rows (envOfC)

abbrev sL (K : PySem.W.Frag) : TE := tSl (rSlL K) (tVar 0) tNoPart (tPart (tC (V.int 63)))
abbrev tDeck (c b : Int) (K : PySem.W.Frag) : TS :=
  tSeq (tAsg (tC (V.int c)) (gName 1))
  (tSeq (tFor (iList K (sL K)) (gName 2) (tAsg (rP (iM (tCons (aP (aP (mP (tVar 1) (tC (V.int 48271))) (rP (iM (tCons (tVar 2) tNil)) (tC (V.int 2147483629)))) (tC (V.int b))) tNil)) (tC (V.int 2147483587))) (gName 1)))
  (tRet (tDisp [(tC (V.str "left"), tRevL K (tCB (fun xs H Q => ∃ p ys, xs = [V.ref p] ∧ (SqL K H p ys ∨ SqT K H p ys) ∧ ∀ l, H l = none → Q (V.ref l) (upd H l (.lst ys))) (tCons (sL K) tNil))), (tC (V.str "mixed"), tVar 1), (tC (V.str "draws"), tC (V.int 0))])))
theorem cut_ints (ns : List Int) (lo hi : Option Int) (h : ns.length ≤ 63) : ∃ ms : List Int, cutV (ns.map V.int) lo hi = ms.map V.int ∧ ms.length ≤ 63 := by
  refine ⟨(ns.drop (HT.sIx (ns.map V.int).length 0 lo)).take (HT.sIx (ns.map V.int).length (ns.map V.int).length hi - HT.sIx (ns.map V.int).length 0 lo), ?_, ?_⟩
  · unfold cutV
    rw [List.map_take, List.map_drop]
  · rw [List.length_take, List.length_drop]
    omega
theorem merge_deck (l : Addr) (m n : Int) : mergeK [] [((Sum.inr "left" : Key), V.ref l), (Sum.inr "mixed", V.int m), (Sum.inr "draws", V.int n)] = [((Sum.inr "left" : Key), V.ref l), (Sum.inr "mixed", V.int m), (Sum.inr "draws", V.int n)] := by
  have a1 := kl_m
  have a2 := kl_d
  have a3 := km_d
  simp [mergeK, putK, a1, a2, a3]
section
variable {K : PySem.W.Frag} {H : Hp} {a : Addr} {ns : List Int} {c b : Int} {D : Ends}
theorem deck_law (hc : 0 ≤ c ∧ c < 2147483587) (hS : SqL K H a (ns.map V.int)) (hn : ns.length ≤ 63)
    (hQ : ∀ (H' : Hp) (d l : Addr) (m : Int) (ns' : List Int), Same H H' → (∀ a ps, H' a = some (.tbl ps) → H a = some (.tbl ps)) → H d = none → H l = none → d ≠ l → H' d = some (deckO l m 0) → H' l = some (.lst (ns'.map V.int)) → ns'.length ≤ 63 → 0 ≤ m → m < 2147483587 → D.rt (.ref d) H') :
    tDeck c b K D [some (.ref a), none, none] H := by
  obtain ⟨ms, em, hm⟩ := cut_ints ns none (some 63) hn
  refine ⟨_, rfl, _, rfl, a, _, rfl, hS, fun p hp => ⟨p, rfl, ⟨_, SqL.of upd_same⟩, ?_⟩⟩
  have hSp : Same H (upd H p (.lst (ms.map V.int))) := same_new hp
  rw [em]
  refine for_list (K := K) (a := p) (xs := ms.map V.int) (fun i σ H' => H' = upd H p (.lst (ms.map V.int)) ∧ ∃ m v, σ = [some (.ref a), some (.int m), v] ∧ 0 ≤ m ∧ m < 2147483587) ⟨rfl, c, none, rfl, hc⟩ (fun i σ H' _ ⟨e, _⟩ => by rw [e]; exact SqL.of upd_same) ?_ ?_
  · rintro i y σ H' hi ⟨rfl, m, v, rfl, h1, h2⟩
    obtain ⟨z, rfl⟩ : ∃ z, y = V.int z := by
      obtain ⟨z, _, e⟩ := List.mem_map.mp (List.mem_of_getElem? hi)
      exact ⟨z, e.symm⟩
    exact ⟨_, rfl, _, _, rfl, rfl, .inr (small64 (by decide) (by decide)), _, rfl, .inl ⟨_, rfl, _, _, rfl, rfl, (by show (0 : Int) < 2147483629; decide), _, _, rfl, rfl, _, _, rfl, rfl, .inl ⟨_, rfl, _, _, rfl, rfl, (by show (0 : Int) < 2147483587; decide), rfl, _, _, rfl, mod_lt' (by decide)⟩⟩⟩
  · rintro σ H' ⟨rfl, m, v, rfl, h1, h2⟩
    have tSp : ∀ a ps, upd H p (.lst (ms.map V.int)) a = some (.tbl ps) → H a = some (.tbl ps) := ot_upd (by intro _ z; cases z)
    generalize upd H p (.lst (ms.map V.int)) = H1 at hSp tSp
    intro d hd
    have hS1 : Same H1 (upd H1 d (.dK [])) := same_new hd
    have hd2 : upd H1 d (.dK []) d = some (.dK []) := upd_same
    have d0 := hSp.free hd
    have hS' := hSp.trans hS1
    have tS' : ∀ a ps, upd H1 d (.dK []) a = some (.tbl ps) → H a = some (.tbl ps) := fun a ps e => tSp a ps (ot_upd (by intro _ z; cases z) a ps e)
    generalize upd H1 d (.dK []) = H2 at hd2 hS' tS'
    refine ⟨_, rfl, _, rfl, a, _, rfl, hS'.seq hS, fun q hq => ?_⟩
    have hd3 : upd H2 q (.lst (cutV (ns.map V.int) none (some 63))) d = some (.dK []) := by rw [upd_ne (ne_of_none hd2 hq)]; exact hd2
    have hS3 := hS'.trans (same_new (o := .lst (cutV (ns.map V.int) none (some 63))) hq)
    have hq3 : upd H2 q (.lst (cutV (ns.map V.int) none (some 63))) q = some (.lst (cutV (ns.map V.int) none (some 63))) := upd_same
    have tS3 : ∀ a ps, upd H2 q (.lst (cutV (ns.map V.int) none (some 63))) a = some (.tbl ps) → H a = some (.tbl ps) := fun a ps e => tS' a ps (ot_upd (by intro _ z; cases z) a ps e)
    generalize upd H2 q (.lst (cutV (ns.map V.int) none (some 63))) = H3 at hd3 hS3 hq3 tS3
    refine ⟨q, _, rfl, .inl (SqL.of hq3), fun r hr => ?_⟩
    rw [em] at hq3 ⊢
    have hd4 : upd H3 r (.lst (ms.map V.int)) d = some (.dK []) := by rw [upd_ne (ne_of_none hd3 hr)]; exact hd3
    have hS4 := hS3.trans (same_new (o := .lst (ms.map V.int)) hr)
    have hr4 : upd H3 r (.lst (ms.map V.int)) r = some (.lst (ms.map V.int)) := upd_same
    have tS4 : ∀ a ps, upd H3 r (.lst (ms.map V.int)) a = some (.tbl ps) → H a = some (.tbl ps) := fun a ps e => tS3 a ps (ot_upd (by intro _ z; cases z) a ps e)
    generalize upd H3 r (.lst (ms.map V.int)) = H4 at hd4 hS4 hr4 tS4
    refine ⟨r, _, rfl, SqL.of hr4, fun l hl => ?_⟩
    have ndl : d ≠ l := ne_of_none hd4 hl
    have l0 := hS4.free hl
    have er : (ms.map V.int).reverse = (ms.reverse).map V.int := by rw [List.map_reverse]
    rw [er]
    refine ⟨_, rfl, by rw [upd_ne ndl]; exact hd4, [(.inr "left", .ref l), (.inr "mixed", .int m), (.inr "draws", .int 0)], rfl, (by show 3 ≤ 15; decide), ?_⟩
    rw [merge_deck]
    refine hQ _ d l m ms.reverse (fun b o e => ?_) (fun a ps e => tS4 a ps (ot_upd (by intro _ z; cases z) a ps (ot_upd (by intro _ z; cases z) a ps e))) d0 l0 ndl upd_same (by rw [upd_ne ndl.symm]; exact upd_same) (by simpa using hm) h1 h2
    have nb : b ≠ d := fun z => by rw [z, d0] at e; cases e
    rw [upd_ne nb]
    have nb2 : b ≠ l := fun z => by rw [z, l0] at e; cases e
    rw [upd_ne nb2]
    exact hS4 _ _ e
end
/-- a new deck -/
def spDeck (K : PySem.W.Frag) : Sp := fun vs H Q _ => ∃ (a : Addr) (ns : List Int), vs = [.ref a] ∧ SqL K H a (ns.map V.int) ∧ ns.length ≤ 63 ∧ ∀ H' d l, Same H H' → (∀ a ps, H' a = some (.tbl ps) → H a = some (.tbl ps)) → H d = none → H l = none → DeckAt (d, l) (fun _ => none) H' → Q (.ref d) H'
theorem okDeck {P : Program} {w : World} {K : PySem.W.Frag} {mg : Str → Option Value} {base : Heap} {x qual : Str} {st : Stmt} {f : Addr} {fd : FuncData} {N ps : List Str} {c b : Int} (F : Fun K x qual st f fd) (S : FnScope N ps (defScope st)) (hN : N.length = 3) (hp : ps.length = 1) (hc : 0 ≤ c ∧ c < 2147483587)
    (body : ∀ (cdv : Value) (A : Around) (outer : List Env) (s : Shared) (H : Hp) (E : XK), Room 0 (A.deeper (envOfC qual (defScope st) s.heap.objs.size f cdv)) → PSs (cxD P w K mg base N qual st f cdv A outer s H E) (defBody st) (tDeck c b K)) : FnOk P w K mg base (L2.CX P w) 1 f fd ps (spDeck K) := by
  refine F.okX S (fun vs H Q E ⟨a, ns, h1, _⟩ => ?_) fun cdv A outer s H vs Q E hr ⟨a, ns, h1, h2, h3, h4⟩ => ⟨_, body cdv A outer s H E hr, ?_⟩
  · rw [h1, hp]
    rfl
  · subst h1
    have es : L2.start N [V.ref a] = [some (.ref a), none, none] := by
      unfold L2.start
      rw [hN]
      rfl
    rw [es]
    exact deck_law hc h2 h3 fun H' d l m ns' s1 t1 d0 l0 ndl e1 e2 hl m0 m1 => h4 H' d l s1 t1 d0 l0 ⟨rfl, rfl, ndl, ns', m, 0, e1, e2, hl, m0, m1⟩

/-! ### the law: its first statement makes the deck -/
def hp0 : Hp := fun _ => none
theorem pss_deck {T : List (Addr × Str)} {X : Cx} {rest : List Stmt} {g : WD → GS} (h : ∀ p H0, SDs ⟨⟨some p, T⟩, hp0, H0⟩ X rest (g (some p))) : PSs X rest fun Dn s H => ∃ p H0, LS ⟨⟨some p, T⟩, hp0, H0⟩ X.kn (g (some p)) Dn s H :=
  ⟨fun pins s σ H Dn I ⟨p, H0, q⟩ => (h p H0).run.run pins s σ H Dn I q⟩
/-- what the law promises -/
def spLaw (K : PySem.W.Frag) (T : List (Addr × Str)) : Sp := fun vs H Q _ => ∃ (a : Addr) (script : List Int), vs = [.ref a] ∧ SqL K H a (script.map V.int) ∧ script.length ≤ 63 ∧ (∀ x, x ∈ T → H x.1 = some (.tbl #[])) ∧ (∀ a ps, H a = some (.tbl ps) → ∃ x, x ∈ T ∧ a = x.1) ∧ ∀ G, Q (.bl true) G
theorem okLaw {P : Program} {w : World} {K : PySem.W.Frag} {mg : Str → Option Value} {base : Heap} {x qual : Str} {st s0 : Stmt} {rest : List Stmt} {f : Addr} {fd : FuncData} {N : List Str} {y : Str} {k : Nat} {g : WD → GS} {T : List (Addr × Str)} (F : Fun K x qual st f fd) (S : FnScope N [y] (defScope st)) (hN : 1 < N.length)
    (hst : defBody st = s0 :: rest)
    (body : ∀ (cdv : Value) (A : Around) (outer : List Env) (s : Shared) (H : Hp) (E : XK), (A.deeper (envOfC qual (defScope st) s.heap.objs.size f cdv)).guards = some [] → Room k (A.deeper (envOfC qual (defScope st) s.heap.objs.size f cdv)) →
      PassesOwn (model P w) (cxD P w K mg base N qual st f cdv A outer s H E).A (cxD P w K mg base N qual st f cdv A outer s H E).env (cxD P w K mg base N qual st f cdv A outer s H E).xe →
      Passes (L2.CX P w) (cxD P w K mg base N qual st f cdv A outer s H E) E →
      PS (cxD P w K mg base N qual st f cdv A outer s H E) s0 (tAsg (tCall (spDeck K) [] E (tCons (tVar 0) tNil)) (gName 1)) ∧
      ∀ p H0, SDs ⟨⟨some p, T⟩, hp0, H0⟩ (cxD P w K mg base N qual st f cdv A outer s H E) rest (g (some p)))
    (law : ∀ (d l : Addr) (v : V), g (some (d, l)) (endsD fun r => r = .bl true) (.d (.opq v) :: .d (.opq (.ref d)) :: List.replicate (N.length - 2) .no)) : FnG P w K mg base (k + 1) f fd [y] (spLaw K T) := by
  obtain ⟨oc, od, kV, doc, pm, an, cdv, ct, osl, rfl, lk, hcd⟩ := F.ex
  refine fn_ofG lk hcd S (fun vs H Q E ⟨a, ns, h1, _⟩ => by rw [h1]; rfl) fun A outer s H vs Q E hG hr ⟨a, ns, h1, h2, h3, hT, hO, h4⟩ => ?_
  subst h1
  obtain ⟨b1, b2⟩ := body cdv A outer s H E hG hr (passes_of rfl) (passes_call (takes_of rfl rfl rfl rfl) fun _ _ _ _ z => z)
  have b3 := pss_cons b1 (pss_deck b2)
  rw [← hst] at b3
  refine ⟨_, b3, ?_⟩
  have es : L2.start N [V.ref a] = some (.ref a) :: none :: List.replicate (N.length - 2) none := by
    unfold L2.start
    obtain ⟨m, hm⟩ : ∃ m, N.length = m + 2 := ⟨N.length - 2, by omega⟩
    rw [hm]
    rfl
  rw [es]
  refine ⟨_, rfl, a, ns, rfl, h2, h3, fun H' d l s1 t1 d0 l0 dk => ?_⟩
  refine ⟨(d, l), H', .d (.opq (.ref a)) :: .d (.opq (.ref d)) :: List.replicate (N.length - 2) .no, hp0, endsD fun r => r = .bl true, ?_, law d l (.ref a), ?_⟩
  · have dki : DeckIn ⟨some (d, l), T⟩ hp0 H' := ⟨fun p hp => by cases hp; exact dk, fun _ _ => rfl, fun x hx => LamX.TabS.nil (s1 _ _ (hT x hx)), fun _ _ z => (nomatch z), fun a ps e => hO a ps (t1 a ps e)⟩
    refine ⟨Grow.refl fun _ _ z => (nomatch z), dki, dki, by simp, fun _ => none, ⟨fun i j a z => (nomatch z), fun i a z => (nomatch z)⟩, fun i z v e1 e2 => ?_⟩
    match i with
    | 0 =>
      simp only [List.getElem?_cons_zero, Option.some.injEq] at e1
      have e2' : some (some (V.ref a)) = some v := e2
      cases e2'
      subst e1
      exact .opq _
    | 1 =>
      have e1' : some (SV.d (.opq (.ref d))) = some z := e1
      have e2' : some (some (V.ref d)) = some v := e2
      cases e1'
      cases e2'
      exact .opq _
    | i + 2 =>
      have e1' : (List.replicate (N.length - 2) SV.no)[i]? = some z := e1
      have e2' : (List.replicate (N.length - 2) (none : Option V))[i]? = some v := e2
      have h1 := List.eq_of_mem_replicate (List.mem_of_getElem? e1')
      have h2 := List.eq_of_mem_replicate (List.mem_of_getElem? e2')
      subst h1 h2
      exact True.intro
  · refine ⟨fun _ _ _ _ _ _ z => ?_, fun r v F' H2 _ _ rv e => ?_, fun _ _ _ _ _ _ z => z.elim, fun _ _ _ _ _ _ z => z.elim⟩
    · cases (show D.non = .bl true from z)
    · subst e
      cases rv
      exact h4 _
end ND

/-! ND11: the end of a law, from FnG -/
namespace ND
open PySem PySem.Spec L2 PyProof.Rows
open PyProof.Rows (envOfC)

/-- the script alone is tracked, if it is not of the written part -/
def scH (K : PySem.W.Frag) (a : Addr) (o : Obj) (ns : List Int) : Hp := fun b => if b = a ∧ K.lookup a = none then some (.frz o (.lst (ns.map V.int))) else none
theorem scH_some {K : PySem.W.Frag} {a b : Addr} {o : Obj} {ns : List Int} {u : HO} (h : scH K a o ns b = some u) : b = a ∧ K.lookup a = none ∧ u = .frz o (.lst (ns.map V.int)) := by
  unfold scH at h
  split at h
  · rename_i c
    cases h
    exact ⟨c.1, c.2, rfl⟩
  · cases h
theorem scH_none {K : PySem.W.Frag} {a b : Addr} {o : Obj} {ns : List Int} (h : b = a → K.lookup a ≠ none) : scH K a o ns b = none := by
  unfold scH
  rw [if_neg fun c => h c.1 c.2]
theorem run_law {P : Program} {w : World} {K : PySem.W.Frag} {mg mb : Str → Option Value} {k : Nat} {fa a : Addr} {fd : FuncData} {x : Str} {sp : Sp} {t : Shared} {vs : List Value} {ns : List Int}
    (KX : K.In t.heap) (nsM : t.heap.Ns mainGlobals mg) (nsB : t.heap.Ns builtinsNs mb) (bb : ∀ y : Str, y ≠ "__name__" → mb y = bootBuiltins y) (lim : t.heap.NoLimit) (gens : t.gens = #[])
    (ha : t.heap.get? a = some { cls := .type "list", data := .seq vs.toArray }) (hi : IntsAre vs ns) (hl : ns.length ≤ sizeLine) (room : Room k callerA)
    (G : ∀ base : Heap, K.In base → base.Ns mainGlobals mg → FnG P w K mg base k fa fd [x] sp) (bind : ∀ (s : Shared) (u : Value), BindsTo s fd ⟨[u], []⟩ [(x, u)])
    (ask : ∀ H : Hp, SqL K H a (ns.map V.int) → (∀ b ps, H b ≠ some (.tbl ps)) → sp [.ref a] H (fun v _ => v = .bl true) fun _ _ _ => False) :
    codeAny (model P w) callerA (.call (.ref fa) ⟨[.ref a], []⟩) (fun r s' => r = .ok (.ret (.bool true)) ∧ OldK t.heap s'.heap ∧ s'.os = t.os ∧ AllBare s'.gens) t := by
  have vals := vals_ints hi
  have sameLen := hi.length
  generalize hH : scH K a { cls := .type "list", data := .seq vs.toArray } ns = H
  have inH : ∀ {b : Addr} {u : HO}, H b = some u → b = a ∧ K.lookup a = none ∧ u = .frz { cls := .type "list", data := .seq vs.toArray } (.lst (ns.map V.int)) := fun e => by
    rw [← hH] at e
    exact scH_some e
  have outH : ∀ {b : Addr}, (b = a → K.lookup a ≠ none) → H b = none := fun e => by
    rw [← hH]
    exact scH_none e
  have seqA : SqL K H a (ns.map V.int) := by
    cases ek : K.lookup a with
    | none =>
      refine .inl (.inr ⟨{ cls := .type "list", data := .seq vs.toArray }, ?_⟩)
      rw [← hH]
      unfold scH
      rw [if_pos ⟨rfl, ek⟩]
    | some o =>
      have same := KX a o ek
      rw [ha] at same
      cases same
      exact .inr ⟨_, vs.toArray, _, ek, rfl, rfl, rfl, by rw [List.size_toArray, sameLen]; exact hl, by simpa using vals⟩
  have okH : HOk P w H t.heap := fun b u e => by
    obtain ⟨rfl, _, rfl⟩ := inH e
    exact ⟨ha, by rw [List.length_map]; exact hl, vs, _, vals, ha⟩
  have stays : ∀ {b : Addr} {o : Obj}, t.heap.get? b = some o → H b = none → (hidT t.heap H).get? b = some o := fun e n => hidT_get e n
  have nsStays : ∀ {b : Addr} {m : Str → Option Value}, t.heap.Ns b m → (hidT t.heap H).Ns b m := fun {b m} ⟨o, es, ep, e, dt, r⟩ => by
    refine ⟨o, es, ep, stays e ?_, dt, r⟩
    cases q : H b with
    | none => rfl
    | some u =>
      obtain ⟨rfl, _, _⟩ := inH q
      rw [ha] at e
      cases e
      exact absurd (show Data.seq vs.toArray _ = Data.dict es ep from dt) (by intro z; cases z)
  have kIn : K.In (hidT t.heap H) := fun b o e => stays (KX b o e) (outH fun z => by
    subst z
    rw [e]
    exact Option.some_ne_none _)
  obtain ⟨mc, l1, l2⟩ := lim
  have env : Env0 P w K mg (hidT t.heap H) callerA [] t H := ⟨rfl, ⟨kIn, nsStays nsM, ⟨mb, nsStays nsB, bb⟩, mc, nsStays l1, l2⟩, fun b o e => of_hidT e, Nat.le_of_eq (hidT_size _ _), trivial, fun b hb => (nomatch hb), okH, .of_eq gens⟩
  have run := (G _ kIn (nsStays nsM)).run callerA [] t H ⟨[.ref a], []⟩ [.ref a] [.ref a] _ _ rfl room env (bind t (.ref a)) (.cons rfl .nil) (ask H seqA fun b ps e => by obtain ⟨_, _, z⟩ := inH e; cases z)
  refine codeAny_mono run fun r s' h => ?_
  rcases r with e | fl
  · obtain ⟨_, _, _, _, _, _, _, _, _, _, _, _, no⟩ := (show L2.CX P w [] H t (fun _ _ _ => False) e s' from h)
    exact no.elim
  · cases fl with
    | ret u =>
      obtain ⟨v, H', os, bare, un, hok', r', q⟩ := h
      have q' : v = .bl true := q
      subst q'
      obtain rfl : u = Value.bool true := r'
      refine ⟨rfl, OldK.of_keep fun b o e => ?_, os, bare⟩
      cases q : H b with
      | none => exact un.keep b o e q (fun z => (nomatch z)) (by simp)
      | some u =>
        obtain ⟨rfl, _, rfl⟩ := inH q
        obtain ⟨g1, _⟩ := hok' b _ (un.frzs b _ _ q)
        rw [ha] at e
        cases e
        exact g1
    | next => exact False.elim h
    | brk => exact False.elim h
    | cont => exact False.elim h
theorem walkG {l : PySem.W.OpenLaw} {k : Nat} {q : Program} {loose : List Str} {XP : (Str → Option Value) → Heap → Prop} {YP : World → Heap → Prop} {d : DefRec} {K : Params → PySem.W.Frag} {x : Str}
    (hn : l.most = some 63) (hdf : d.params.defaults = []) (hr : Room k callerA) (hY : ∀ (w : World) (h : Heap), YP w h → (K w.params).In h)
    (G : ∀ (w : World) (mg : Str → Option Value) (fa : Addr) (h : Heap), (K w.params).In h → h.Ns mainGlobals mg → mg d.name = some (.ref fa) →
      ∃ fd : FuncData, (∀ (s : Shared) (u : Value), BindsTo s fd ⟨[u], []⟩ [(x, u)]) ∧ ∀ base : Heap, (K w.params).In base → base.Ns mainGlobals mg → FnG l.prog w (K w.params) mg base k fa fd [x] (spLaw (K w.params) [])) :
    PySem.W.WalkO q loose XP YP l.row.toRowW d [] (fun f vs => PySem.call f vs) := by
  refine Att.attach_callB hn hdf fun w s₀ t mg mb fa o pm cd doc a vs ns Gd Y ho hd hcd hmg hobj hints hlen hbits hg => ?_
  have inK := hY w _ Y
  obtain ⟨fd, bind, run⟩ := G w mg fa _ inK Gd.T.g hmg
  exact run_law inK Gd.T.g Gd.T.b Gd.T.builtins Gd.T.nolimit hg hobj hints (Nat.le_trans hlen (by decide)) hr run bind fun H hS nt => ⟨a, ns, rfl, hS, hlen, fun _ z => (nomatch z), fun b ps e => absurd e (nt b ps), fun _ => rfl⟩
theorem hu65_of {A : Around} {k : Nat} (hr : Room k A) : A.units + 65 < cLine := by have := hr.un; omega
end ND
namespace ND
open PySem PySem.Spec L2
/-! ### for the plain laws -/
@[simp] theorem addD_i (i j : Int) (Q : D → Prop) : addD (.int i) (.int j) Q = Q (.int (i + j)) := rfl
@[simp] theorem addD_s (i j : Str) (Q : D → Prop) : addD (.str i) (.str j) Q = (i.length + j.length ≤ sizeLine ∧ Q (.str (i ++ j))) := rfl
@[simp] theorem addD_t (i j : List D) (Q : D → Prop) : addD (.tup i) (.tup j) Q = (i.length + j.length ≤ sizeLine ∧ Q (.tup (i ++ j))) := rfl
@[simp] theorem addD_l (i j : List D) (Q : D → Prop) : addD (.lst i) (.lst j) Q = (i.length + j.length ≤ sizeLine ∧ Q (.lst (i ++ j))) := rfl
@[simp] theorem subD_i (i j : Int) (Q : D → Prop) : subD (.int i) (.int j) Q = Q (.int (i - j)) := rfl
@[simp] theorem mulD_i (i j : Int) (Q : D → Prop) : mulD (.int i) (.int j) Q = (ND.MulOk i j ∧ Q (.int (i * j))) := rfl
@[simp] theorem fdivD_i (i j : Int) (Q : D → Prop) : fdivD (.int i) (.int j) Q = (0 < j ∧ j.natAbs.log2 < 9000 ∧ Q (.int (i / j))) := rfl
@[simp] theorem modD_i (i j : Int) (Q : D → Prop) : modD (.int i) (.int j) Q = (0 < j ∧ Q (.int (i % j))) := rfl
@[simp] theorem powD_i (i j : Int) (Q : D → Prop) : powD (.int i) (.int j) Q = (0 ≤ j ∧ j ≤ 1000000 ∧ i.natAbs < 2 ^ 64 ∧ Q (.int (i ^ j.toNat))) := rfl
@[simp] theorem negD_i (i : Int) (Q : D → Prop) : negD (.int i) Q = Q (.int (-i)) := rfl
@[simp] theorem ltD_i (i j : Int) (Q : D → Prop) : ltD (.int i) (.int j) Q = Q (.bl (decide (i < j))) := rfl
@[simp] theorem leD_i (i j : Int) (Q : D → Prop) : leD (.int i) (.int j) Q = Q (.bl (decide (i ≤ j))) := rfl
@[simp] theorem gtD_i (i j : Int) (Q : D → Prop) : gtD (.int i) (.int j) Q = Q (.bl (decide (j < i))) := rfl
@[simp] theorem geD_i (i j : Int) (Q : D → Prop) : geD (.int i) (.int j) Q = Q (.bl (decide (j ≤ i))) := rfl
@[simp] theorem truthD_b (i : Bool) (Q : Bool → Prop) : truthD (.bl i) Q = Q i := rfl
@[simp] theorem truthD_n (Q : Bool → Prop) : truthD .non Q = Q false := rfl
@[simp] theorem truthD_i (i : Int) (Q : Bool → Prop) : truthD (.int i) Q = Q (i != 0) := rfl
@[simp] theorem truthD_t (i : List D) (Q : Bool → Prop) : truthD (.tup i) Q = Q (!i.isEmpty) := rfl
@[simp] theorem truthD_l (i : List D) (Q : Bool → Prop) : truthD (.lst i) Q = Q (!i.isEmpty) := rfl
@[simp] theorem lenD_l (i : List D) (Q : D → Prop) : lenD [.lst i] Q = Q (.int i.length) := rfl
@[simp] theorem lenD_t (i : List D) (Q : D → Prop) : lenD [.tup i] Q = Q (.int i.length) := rfl
@[simp] theorem lenD_s (x : Str) (Q : D → Prop) : lenD [.str x] Q = (x.length ≤ sizeLine ∧ Q (.int x.length)) := rfl
@[simp] theorem intD_i (i : Int) (Q : D → Prop) : intD [.int i] Q = Q (.int i) := rfl
@[simp] theorem intD_b (i : Bool) (Q : D → Prop) : intD [.bl i] Q = Q (.int (if i = true then 1 else 0)) := rfl
@[simp] theorem intD_s (x : Str) (Q : D → Prop) : intD [.str x] Q = (∃ n, intText? x = some n ∧ x.length ≤ 640 ∧ Q (.int n)) := rfl
@[simp] theorem absD_i (i : Int) (Q : D → Prop) : absD [.int i] Q = Q (.int (if i < 0 then -i else i)) := rfl
@[simp] theorem max2D_i (i j : Int) (Q : D → Prop) : max2D [.int i, .int j] Q = Q (.int (if j > i then j else i)) := rfl
@[simp] theorem min2D_i (i j : Int) (Q : D → Prop) : min2D [.int i, .int j] Q = Q (.int (if j < i then j else i)) := rfl
@[simp] theorem gcdD_i (i j : Int) (Q : D → Prop) : gcdD [.int i, .int j] Q = Q (.int ((Nat.gcd i.natAbs j.natAbs : Nat) : Int)) := rfl
@[simp] theorem isqrtD_i (i : Int) (Q : D → Prop) : isqrtD [.int i] Q = (0 ≤ i ∧ i.toNat.log2 < 13000 ∧ Q (.int ((Float64.isqrt i.toNat : Nat) : Int))) := rfl
@[simp] theorem isiD_t (x : D) (T : String) (Q : D → Prop) : isiD [x, .opq (.ty T)] Q = (knownT T = true ∧ (tyD x).isSome = true ∧ Q (.bl (isiB T x))) := rfl
@[simp] theorem reprD_x (x : D) (Q : D → Prop) : reprD [x] Q = (pl 64 x = true ∧ (toPy x).showable = true ∧ (toPy x).shown.length ≤ sizeLine ∧ Q (.str (toPy x).shown)) := rfl
@[simp] theorem repS_i (x : Str) (k : Int) (Q : D → Prop) : repS (.str x) (.int k) Q = (1 ≤ k ∧ x.length * k.toNat ≤ sizeLine ∧ x.length ≠ 0 ∧ Q (.str (Txt.mul x k))) := rfl
@[simp] theorem eqD_s (a b : Str) (Q : D → Prop) : eqD (.str a) (.str b) Q = Q (.bl (decide (a = b))) := rfl
@[simp] theorem neD_s (a b : Str) (Q : D → Prop) : neD (.str a) (.str b) Q = Q (.bl (!decide (a = b))) := rfl
@[simp] theorem eqD_l (a : List D) (y : D) (Q : D → Prop) : eqD (.lst a) y Q = (pl 64 (.lst a) = true ∧ pl 64 y = true ∧ Q (.bl (eqb (.lst a) y))) := rfl
@[simp] theorem neD_l (a : List D) (y : D) (Q : D → Prop) : neD (.lst a) y Q = (pl 64 (.lst a) = true ∧ pl 64 y = true ∧ Q (.bl (!eqb (.lst a) y))) := rfl
@[simp] theorem eqD_t (a : List D) (y : D) (Q : D → Prop) : eqD (.tup a) y Q = (pl 64 (.tup a) = true ∧ pl 64 y = true ∧ Q (.bl (eqb (.tup a) y))) := rfl
@[simp] theorem neD_t (a : List D) (y : D) (Q : D → Prop) : neD (.tup a) y Q = (pl 64 (.tup a) = true ∧ pl 64 y = true ∧ Q (.bl (!eqb (.tup a) y))) := rfl
@[simp] theorem knInt : knownT "int" = true := by decide
@[simp] theorem knBool : knownT "bool" = true := by decide
@[simp] theorem knTup : knownT "tuple" = true := by decide
@[simp] theorem knList : knownT "list" = true := by decide
@[simp] theorem knStr : knownT "str" = true := by decide
@[simp] theorem knDict : knownT "dict" = true := by decide
@[simp] theorem eqb_int (i j : Int) : eqb (.int i) (.int j) = decide (i = j) := by simp [eqb, toPy, PyData.eqv, BEq.beq]
@[simp] theorem eqb_str (i j : Str) : eqb (.str i) (.str j) = decide (i = j) := by
  simp only [eqb, toPy, PyData.eqv]
  rw [Bool.eq_iff_iff]
  simp
@[simp] theorem eqb_nil : eqb (.lst []) (.lst []) = true := by decide +kernel
@[simp] theorem pl_int (n : Nat) (i : Int) : pl n (.int i) = true := by cases n <;> simp [pl]
@[simp] theorem pl_bl (n : Nat) (i : Bool) : pl n (.bl i) = true := by cases n <;> simp [pl]
@[simp] theorem pl_non (n : Nat) : pl n .non = true := by cases n <;> simp [pl]
@[simp] theorem eqD_i (i j : Int) (Q : D → Prop) : eqD (.int i) (.int j) Q = Q (.bl (decide (i = j))) := by
  show (pl 64 (.int i) = true ∧ pl 64 (.int j) = true ∧ Q (.bl (eqb (.int i) (.int j)))) = _
  simp
@[simp] theorem neD_i (i j : Int) (Q : D → Prop) : neD (.int i) (.int j) Q = Q (.bl (!decide (i = j))) := by
  show (pl 64 (.int i) = true ∧ pl 64 (.int j) = true ∧ Q (.bl (!eqb (.int i) (.int j)))) = _
  simp
@[simp] theorem ix_t3_0 (a b c : D) (Q : D → Prop) : ixD (.tup [a, b, c]) (.int 0) Q = Q a := by simp [ixD, atI, ixN]
@[simp] theorem ix_t3_1 (a b c : D) (Q : D → Prop) : ixD (.tup [a, b, c]) (.int 1) Q = Q b := by simp [ixD, atI, ixN]
@[simp] theorem ix_t3_2 (a b c : D) (Q : D → Prop) : ixD (.tup [a, b, c]) (.int 2) Q = Q c := by simp [ixD, atI, ixN]
@[simp] theorem lineLe (n : Nat) (h : n ≤ 1000 := by decide) : n ≤ sizeLine ↔ True := ⟨fun _ => trivial, fun _ => Nat.le_trans h (by decide)⟩
end ND

/-! ND12: own errors over Exception, with one field -/
namespace ND
open PySem PySem.Spec L2 Builtin Builtin.ObjectAttr
open PyProof.Rows (envOfC)

abbrev exT : List Value := [.type "Exception", .type "BaseException", .type "object"]
/-- what the written part says of an error's class nm, at C, whose __init__(self, fld) stores fld -/
structure ErC (K : PySem.W.Frag) (mg : Str → Option Value) (nm fld : Str) (C fI : Addr) : Prop where
  gC : mg nm = some (.ref C)
  ini : PySem.W.excInitIn K C exT "Exception.__new__" = true
  ovr : PySem.W.excOver K C exT = true
  tkr : PySem.W.takerIn K C fld = some none
  noN : PySem.W.findIn K (.ref C) fld = some none
  sa : PySem.W.findIn K (.ref C) "__setattr__" = some (some (.builtin "object.__setattr__"))
  iC : PySem.W.findIn K (.ref C) "__init__" = some (some (.ref fI))
  tC : PySem.W.typeIn K (.ref fI) = some (.type "function")
  kC : PySem.W.keepIn K (.ref C) = true
  exC : PySem.W.subIn K (.ref C) (.type "BaseException") = some true
  tyC : PySem.W.typeIn K (.ref C) = some (.type "type")
  hdC : PySem.W.hasDictIn K C = true
section
variable {prog : Program} {w : World} {A : Around} {E : Value → Shared → Prop} {R : Result → Shared → Prop} {hp : Heap} {g : Array GenState} {d : Drawn} {t : Nat} {os : OsState} {K : PySem.W.Frag} {mg : Str → Option Value} {nm fld : Str} {C fI : Addr}
theorem er_store {tk : Tok} {v : Value} {x t0 : Addr} (T : ErC K mg nm fld C fI) (X : K.In hp) (hx : hp.get? x = some (HandSPX.excO C t0))
    (hq : ∀ h' tk' dx, (∀ b o, b ≠ x → hp.get? b = some o → h'.get? b = some o) → hp.objs.size ≤ dx → dx ≠ x → h'.get? x = some { cls := .ref C, dict := some dx, data := .fields #[.ref t0, .none, .none, .none, .bool false, .none] } →
      h'.Ns1 dx (fun y => if y = fld then some v else none) → R (.ok (.ret .none)) ⟨h', g, d, tk', os⟩) :
    codeAny (model prog w) A (.call (.builtin "object.__setattr__") ⟨[.ref x, .str fld tk, v], []⟩) R ⟨hp, g, d, t, os⟩ := by
  obtain ⟨cd, hc, _⟩ := PySem.W.any_some T.ovr
  have hh : cd.hasDict = true := by
    have h1 := T.hdC
    unfold PySem.W.hasDictIn at h1
    rw [hc] at h1
    exact h1
  have other : x ≠ hp.objs.size := Nat.ne_of_lt (Heap.lt_size hx)
  refine PySem.W.osa_openX (s := ⟨hp, g, d, t, os⟩) F.store_Exception X (ox := HandSPX.excO C t0) (od := none) ⟨hx, rfl, rfl, trivial⟩ T.ovr T.tkr fun b => ?_
  have hcls : PySem.W.Looks (model prog w) hp (classData C) cd := PySem.W.looks_clsIn X hc
  obtain ⟨cn, bs, mro, ns, qn, hd, sn, sb, ab, col, del⟩ := cd
  dsimp only at hh
  subst hh
  show wpAny _ _ (storeInOwnDict (.ref x) (.ref C) (.str fld tk) fld v b) _ _ _
  unfold storeInOwnDict ownDictForStores
  repeat (first | with_reducible refine HandSPX.store_in_new ?_ ?_ | with_reducible refine wpAny_loadPart_at hx ?_ | with_reducible refine hcls.at ?_ | wp_step)
  · exact ⟨_, #[], _, (Heap.get?_update_ne _ _ _ _ other.symm).trans (Heap.get?_push_at rfl rfl), rfl, fun e he => absurd he (by simp), fun _ => rfl⟩
  · intro h' tk' named only
    have still : (hp.push { cls := .type "dict", data := .dict #[] }).get? x = some (HandSPX.excO C t0) := Heap.get?_push_of_some _ hx
    exact hq h' tk' hp.objs.size (fun b o hb ho => (only.2 b (Nat.ne_of_lt (Heap.lt_size ho))).trans ((Heap.get?_update_ne _ _ _ _ hb).trans (Heap.get?_push_of_some _ ho))) (Nat.le_refl _) other.symm ((only.2 x other).trans (Heap.get?_update_self _ still rfl)) named
/-- what is left of C(v): the error at e, its dict at dx -/
structure ErMade (h h' : Heap) (e C dx : Addr) (fld : Str) (v : Value) : Prop where
  keep : ∀ b o, h.get? b = some o → h'.get? b = some o
  new : h.objs.size ≤ e
  obj : ∃ oe vs, h'.get? e = some oe ∧ oe.cls = .ref C ∧ oe.dict = some dx ∧ oe.data = .fields vs ∧ vs[1]? = some .none
  big : h.objs.size ≤ dx
  ne : dx ≠ e
  ns : h'.Ns1 dx (fun y => if y = fld then some v else none)
/-- the text of __init__(self, fld): self.fld = fld -/
structure ErInit (K : PySem.W.Frag) (qual fld : Str) (st : Stmt) (fI : Addr) : Prop where
  fn : ∃ fd, Fun K "__init__" qual st fI fd
  body : ∃ q1 q2 q3 q4, defBody st = [.Assign [.Attribute (.Name "self" q1) fld q2] (.Name fld q3) q4]
  bind : ∀ (kV doc pm : Value) (an : Option Addr) (cdv ct a b : Value), bindArgs (PySem.W.fnOf "__init__" qual (defArgs st) (defBody st) (defScope st) .none kV doc pm an cdv ct) ⟨[a, b], []⟩ = pure [(("self" : Str), a), (fld, b)]
  kinds : ∀ a b : Value, ([(("self" : Str), a), (fld, b)].all fun y => (defScope st).names.lookup y.1 == some .local || (defScope st).names.lookup y.1 == some .cell) = true
  kSelf : ∀ L a cd, (envOfC qual (defScope st) L a cd).kindOf "self" = some .local
  kFld : ∀ L a cd, (envOfC qual (defScope st) L a cd).kindOf fld = some .local
  bSelf : ∀ L a cd (u v : Value), bindL (envOfC qual (defScope st) L a cd).kindOf [(("self" : Str), u), (fld, v)] (fun _ => none) "self" = some u
  bFld : ∀ L a cd (u v : Value), bindL (envOfC qual (defScope st) L a cd).kindOf [(("self" : Str), u), (fld, v)] (fun _ => none) fld = some v
  sc : (defScope st).kind = .function ∧ (defScope st).isGenerator = false ∧ (defScope st).isCoroutine = false
  nd : (fld == ("__debug__" : Str)) = false
theorem er_local {M : Model} {s : Shared} {env : Env} {x : Str} {pos : Pos} {v : Value} {m : Str → Option Value} {Q : Value → Shared → Prop} {A : Around} {E : Value → Shared → Prop} (hk : env.scope.kind = .function) (hl : env.kindOf x = some .local) (hn : s.heap.Ns env.locals m) (hv : m x = some v) (hd : (x == ("__debug__" : Str)) = false) (h : Q v s) :
    wpAny M A (eval (.Name x pos) env) Q E s := wpAny_Name (wpAny_loadName_local hk hl hn hv h) hd
theorem er_init {s : Shared} {x t0 : Addr} {v : Value} {qual : Str} {st : Stmt} (T : ErC K mg nm fld C fI) (N : ErInit K qual fld st fI) (X : K.In s.heap) (lim : s.heap.NoLimit) (hx : s.heap.get? x = some (HandSPX.excO C t0)) (room : A.depth < recursionLimit)
    (hq : ∀ h' tk dx, (∀ b o, b ≠ x → s.heap.get? b = some o → h'.get? b = some o) → s.heap.objs.size ≤ dx → dx ≠ x → h'.get? x = some { cls := .ref C, dict := some dx, data := .fields #[.ref t0, .none, .none, .none, .bool false, .none] } →
      h'.Ns1 dx (fun y => if y = fld then some v else none) → R (.ok (.ret .none)) { s with heap := h', toks := tk }) :
    codeAny (model prog w) A (.call (.ref fI) ⟨[.ref x, v], []⟩) R s := by
  obtain ⟨fd, oc, od, kV, doc, pm, an, cdv, ct, osl, rfl, here, code⟩ := N.fn.imp fun _ F => F.ex
  obtain ⟨q1, q2, q3, q4, text⟩ := N.body
  obtain ⟨sc1, sc2, sc3⟩ := N.sc
  refine Att.call_fn (binds := [(("self" : Str), .ref x), (fld, v)]) X lim here code room (BindsTo.of_eq (N.bind kV doc pm an cdv ct _ _)) (N.kinds _ _) (fun s₁ IC => ?_) sc3 sc2 sc1
  obtain ⟨h₁, tk₁, rfl⟩ := IC.toInCall.same
  have k : ∀ b o, s.heap.get? b = some o → h₁.get? b = some o := IC.toInCall.keep
  have names := IC.toInCall.ns
  have X₁ : K.In h₁ := X.keeps k
  have hx₁ := k _ _ hx
  rw [text]
  refine wpAny_execs_cons (plainObj_wpAny_Assign_Attribute ?_)
  refine er_local sc1 (N.kFld _ _ _) names (N.bFld _ _ _ _ _) N.nd (er_local sc1 (N.kSelf _ _ _) names (N.bSelf _ _ _ _ _) (by decide) ?_)
  refine PySem.W.set_plain X₁ (ox := HandSPX.excO C t0) (od := none) ⟨hx₁, rfl, rfl, trivial⟩ T.sa ?_
  refine er_store T X₁ hx₁ fun h₃ tk₃ dx k₃ dn dne hx₃ ns₃ => ?_
  have z : s.heap.objs.size < h₁.objs.size := names.lt
  exact wpAny_execs_nil (hq h₃ tk₃ dx (fun b o hb e => k₃ b o hb (k b o e)) (Nat.le_of_lt (Nat.lt_of_lt_of_le z dn)) dne hx₃ ns₃)
theorem er_made {s : Shared} {v : Value} {qual : Str} {st : Stmt} (T : ErC K mg nm fld C fI) (N : ErInit K qual fld st fI) (X : K.In s.heap) (lim : s.heap.NoLimit) (room : A.depth + 1 < recursionLimit)
    (hq : ∀ h' tk e dx, ErMade s.heap h' e C dx fld v → R (.ok (.ret (.ref e))) { s with heap := h', toks := tk }) : codeAny (model prog w) A (.call (.ref C) ⟨[v], []⟩) R s := by
  obtain ⟨hp, g, dr, tk, os⟩ := s
  obtain ⟨cn, Nn, qn, bs, bm, hdct, sn, sub, ab, col, dd, k0, k1, k2, k3, k5, hC, hbm⟩ := PySem.W.excInit_of X T.ini
  have k : ∀ b o, hp.get? b = some o → ((hp.push (PySem.W.kdv_tup [v])).push (HandSPX.excO C hp.objs.size)).get? b = some o := fun b o e => Heap.get?_push_of_some _ (Heap.get?_push_of_some _ e)
  have at_e : ((hp.push (PySem.W.kdv_tup [v])).push (HandSPX.excO C hp.objs.size)).get? (hp.objs.size + 1) = some (HandSPX.excO C hp.objs.size) := by heap_get
  refine HandSPX.call_own F.excBase_Exception hbm hC (PySem.W.looks_findIn X T.iC) (fun self => PySem.W.bind_fn X self T.tC) (by show 1 ≤ sizeLine; decide) ?_
  refine er_init (s := ⟨(hp.push (PySem.W.kdv_tup [v])).push (HandSPX.excO C hp.objs.size), g, dr, tk, os⟩) T N (X.keeps k) (lim.keeps k) at_e (by show A.depth + 1 < recursionLimit; exact room) fun h' tk' dx kept dn dne hx ns => ?_
  have z : hp.objs.size + 1 + 1 ≤ dx := by
    have q := dn
    rw [Heap.size_push, Heap.size_push] at q
    exact q
  exact ⟨rfl, hq h' tk' (hp.objs.size + 1) dx ⟨fun b o e => kept b o (Nat.ne_of_lt (Nat.lt_succ_of_lt (Heap.lt_size e))) (k b o e), Nat.le_succ _, ⟨_, _, hx, rfl, rfl, rfl, rfl⟩, Nat.le_trans (Nat.le_trans (Nat.le_succ _) (Nat.le_succ _)) z, dne, ns⟩⟩
end

/-! ### raising it -/
section
variable {B : Bs} {X : Cx} {C fI : Addr} {nm fld qual : Str} {st : Stmt} {a : Expr} {fa : GE} {p pos : Pos} {k : Nat} {R : Er → Prop} {E : XK}
theorem rel_one {v : V} {u : Value} (r : RelV v u) (f : Str) : RelO (List.lookup f [(fld, v)]) (if f = fld then some u else none) := by
  by_cases e : f = fld
  · subst e
    rw [if_pos rfl]
    simpa [List.lookup] using (show RelO (some v) (some u) from r)
  · rw [if_neg e]
    have b : (f == fld) = false := by simpa using e
    simp only [List.lookup, b]
    trivial
/-- nm(a) makes an error of the class at C, whose dict holds a's value -/
theorem pmk_er {t : TE} (T : ErC X.K X.mg nm fld C fI) (N : ErInit X.K qual fld st fI) (hr : Room k X.A) (ha : PE X a t) (hg : Gl X nm) (ndb : (nm == ("__debug__" : Str)) = false) (he : starEach (a :: []) X.env = (false, eval a X.env) :: starEach [] X.env := by rfl) (hpl : (backTo pos (starEach [] X.env)).any (·.1) = false := by rfl) :
    PMk X (.Call (.Name nm p) [a] [] pos) (fun σ H Q => t σ H fun v G => ∀ dx, G dx = none → Q (.ref C) (some dx) (upd G dx (.xd [(fld, v)]))) := fun pins s σ H Q I h => by
  refine wpAny_Call_Name_kw (ld_glob I hg T.gC (PySem.W.callWith_K (h₀ := X.base) I.ok.mod.kin T.kC (thn ((pa_cons ha pa_nil he).run pos pins s σ H (fun vs G => match vs with | [v] => ∀ dx, G dx = none → Q (.ref C) (some dx) (upd G dx (.xd [(fld, v)])) | _ => False) I h) fun us z ⟨vs, G, J, vals, q⟩ => ⟨J.kIn, ?_⟩) he hpl) ndb)
  match vs, vals, q with
  | [v], .cons (b := u) rv .nil, q =>
    have lim := J.nolimit
    obtain ⟨hp, g, dr, tk, os⟩ := z
    refine wpAny_call (er_made T N J.kIn lim (by have := hr.dp; omega) fun h' tk' e dx M => ?_)
    show MkP X pins σ Q (.ref e) ⟨h', g, dr, tk', os⟩
    obtain ⟨oe, fv, at_e, cls, dct, fields, ctx⟩ := M.obj
    obtain ⟨G', g1, g2⟩ := restrict h' fun b => decide (b ≠ e)
    have off : ∀ b, b ≠ e → G'.get? b = h'.get? b := fun b hb => g1 b (decide_eq_true hb)
    have gone : G'.get? e = none := g2 e (by simp)
    have old : ∀ b o, hp.get? b = some o → G'.get? b = some o := fun b o q => (off b (Nat.ne_of_lt (Nat.lt_of_lt_of_le (Heap.lt_size q) M.new))).trans (M.keep b o q)
    have ok : ObjOk X.prog X.w (upd G dx (.xd [(fld, v)])) G' dx (.xd [(fld, v)]) := ⟨_, M.ns.at (fun o q => (off dx M.ne).trans q), fun f => rel_one rv f⟩
    have J2 : Inv X pins σ (upd G dx (.xd [(fld, v)])) ⟨G', g, dr, tk', os⟩ := J.laid (t' := tk') old M.big ok
    refine ⟨e, oe, fv, ⟨G', g, dr, tk', os⟩, _, .ref C, some dx, rfl, J2, fun b o q => ?_, gone, at_e, ⟨cls, dct⟩, fields, ctx, ?_, rfl, J.bare, raises_own T.exC T.tyC, q dx (J.hok.fresh M.big)⟩
    · have hb : b ≠ e := fun z => by
        have q' : G'.get? b = some o := q
        rw [z, gone] at q'
        cases q'
      exact (off b hb).symm.trans q
    · rw [upd_ne (Ne.symm M.ne)]
      exact J.hok.fresh M.new
/-- raise nm(a) -/
@[simp] def gRaise (nm fld : Str) (fa : GE) (R : Er → Prop) (_ : Ed) (σ : List SV) : Prop := fa σ fun d => R ⟨nm, [(fld, d)]⟩
theorem sd_raise {pos2 : Pos} (hc : X.calm = true) (T : ErC X.K X.mg nm fld C fI) (N : ErInit X.K qual fld st fI) (hr : Room k X.A) (tk : Takes X (fun c o _ H => E c o H)) (hE : FinE B.W X.kn B.F B.H R E) (ha : ED B X a fa) (hg : Gl X nm := by rfl) (ndb : (nm == ("__debug__" : Str)) = false := by decide)
    (he : starEach (a :: []) X.env = (false, eval a X.env) :: starEach [] X.env := by rfl) (hpl : (backTo pos (starEach [] X.env)).any (·.1) = false := by rfl) : SD B X (.Raise (some (.Call (.Name nm p) [a] [] pos)) none pos2) (gRaise nm fld fa R) :=
  ⟨ps_imp (ps_raise hc tk (pmk_er T N hr ha.run hg ndb he hpl)) fun Dn s H ⟨σ, F, Ed, Rl, q, kk⟩ => ⟨σ, F, _, Rl, q, fun d qd F1 H1 v g1 d1 r1 dx hdx =>
    hE _ qd F1 _ (.ref C) (some dx) ((Rl.base.trans g1).trans (Grow.laid g1.fh hdx)) (d1.laid hdx) ⟨T.gC, fun _ => ⟨dx, [(fld, v)], rfl, upd_same, .cons r1 .nil⟩, fun z => nomatch z⟩⟩⟩
end
end ND

/-! ND13: try with several except clauses, named or not -/
namespace ND
open PySem PySem.Spec L2
open PyProof.Rows (envOfC)

/-- an exception that has landed at a, in the state s, to be handled -/
structure Air (X : Cx) (pins : List (Addr × Obj)) (a : Addr) (cls : Value) (d : Option Addr) (σ : L2.St) (H : Hp) (s : Shared) : Prop where
  fly : ∃ G, HandSPX.FlyingZ G (X.env :: X.outer) a (Zc cls d) s.heap ∧ (∀ h, G.StaysIn h → s.heap.UpToSlots h → Inv X pins σ H { s with heap := h }) ∧
    ∀ h (W : WX), HandSPX.HeldZ G (X.env :: X.outer) a (Zc cls d) X.env.locals h → s.heap.UpToSlots h → W cls d σ H → XE X W (.ref a) { s with heap := h }
  na : H a = none
  nL : a ≠ X.env.locals
  nF : a ∉ X.fs
section
variable {X : Cx} {pins : List (Addr × Obj)} {a : Addr} {cls : Value} {d : Option Addr} {σ : L2.St} {H : Hp} {s : Shared}
theorem Air.inv (q : Air X pins a cls d σ H s) : Inv X pins σ H s := by
  obtain ⟨G, fl, inv, _⟩ := q.fly
  exact inv s.heap fl.1 (Heap.UpToSlots.refl _)
theorem Air.again (q : Air X pins a cls d σ H s) {M : Model} {A : Around} {E : Value → Shared → Prop} {P : Unit → Shared → Prop} (h : ∀ t, Air X pins a cls d σ H t → P () t) : wpAny M A (setFlight (.ref a) none) P E s := by
  obtain ⟨G, fl, inv, out⟩ := q.fly
  exact HandSPX.lands_againZ fl fun h' fl' up => h _ ⟨⟨G, fl', fun h2 st up2 => inv h2 st (up.trans up2), fun h2 W hh up2 => out h2 W hh (up.trans up2)⟩, q.na, q.nL, q.nF⟩
theorem Air.suite (q : Air X pins a cls d σ H s) : ∃ oe, s.heap.get? a = some oe ∧ Zc cls d oe ∧ (∃ vs, oe.data = .fields vs) ∧ Inv (X.suite a ((a, oe) :: (X.pn ++ pins))) [] σ H s := by
  obtain ⟨G, fl, _, _⟩ := q.fly
  obtain ⟨oe, vs, at_a, zc, fields⟩ := fl.there
  exact ⟨oe, at_a, zc, ⟨vs, fields⟩, q.inv.suite at_a fields q.na q.nL q.nF⟩
/-- what the body lets out lands -/
theorem air_of {xe : Value → Shared → Prop} {W : WX} {u : Value} {P : Unit → Shared → Prop} {E : Value → Shared → Prop} (ok : X.Ok) (hs : X.stack = X.env :: X.outer) (hf : X.env.frame = some X.env.locals) (x : XE (X.tr (X.pn ++ pins) xe) W u s)
    (h : ∀ a cls d σ H t, u = .ref a → Air X pins a cls d σ H t → W cls d σ H → P () t) : wpAny (model X.prog X.w) X.A (noteFrame u X.env) (fun _ s₂ => wpAny (model X.prog X.w) X.A (setFlight u none) P E s₂) E s := by
  obtain ⟨a, G, sI, _, σ, H, cls, d, rfl, J', nb, up, sky, na, os, ag, w⟩ := x
  have J : Inv X pins σ H sI := J'.ofTry ok
  have frames : X.A.frames = some (X.env :: X.outer) := by rw [ok.frames, hs]
  refine Sky.land Zc.steady frames hf (by rw [← hs]; exact sky) fun h3 fl up3 => h a cls d σ H _ rfl ⟨⟨G, fl, fun h2 st up2 => J.landed nb st ((up.trans up3).trans up2) os ag, fun h2 V hh up2 v => ?_⟩, na, ?_, ?_⟩ w
  · exact ⟨a, G, sI, pins, σ, H, cls, d, rfl, J, nb, (up.trans up3).trans up2, .inr (.inr (by rw [hs]; exact hh)), na, os, ag, v⟩
  all_goals
    obtain ⟨oe, vs, at_a, _, fields⟩ := fl.there
    have out : a ∉ frs (X.env :: X.outer) := fun hm => by
      obtain ⟨_, o', e', no⟩ := fl.2.2.1.mem hm
      rw [at_a] at e'
      cases e'
      exact no _ fields
  · exact fun z => out (List.mem_filterMap.mpr ⟨X.env, List.mem_cons_self, by rw [hf, z]⟩)
  · intro hm
    obtain ⟨e, he, q⟩ := List.mem_filterMap.mp hm
    exact out (List.mem_filterMap.mpr ⟨e, List.mem_cons_of_mem _ he, q⟩)
/-- no clause is left -/
theorem Air.pass {Wout : WX} {P : Flow → Shared → Prop} (q : Air X pins a cls d σ H s) (hf : X.env.frame = some X.env.locals) (tk : Takes X Wout) (w : Wout cls d σ H) : wpAny (model X.prog X.w) X.A (handleBy (.ref a) X.env []) P X.xe s := by
  obtain ⟨G, fl, _, out⟩ := q.fly
  refine wpAny_handleBy_nil ?_
  obtain ⟨_, _, _, oe, vs, T, oT, ts, at_a, zc, fields, trace, _⟩ := id fl
  unfold PySem.passOn
  refine wpAny_bind (wpAny_field at_a fields trace ?_)
  rw [if_neg (show ¬ ((Value.ref T == Value.none) = true) from by simp)]
  have fin : wpAny (model X.prog X.w) X.A (setFlight (.ref a) X.env.frame) (fun _ s4 => wpAny (model X.prog X.w) X.A (throw (.ref a) : Sem Flow) P X.xe s4) X.xe s := by
    rw [hf]
    exact HandSPX.setFlight_upZ fl fun h4 hh up => wpAny_throw (tk _ _ (out h4 Wout hh up w))
  first
    | exact wpAny_bind (wpAny_pure (wpAny_bind fin))
    | exact wpAny_bind fin
end

/-- an except clause: its class, the slot of its name, what its suite asks -/
structure Hdl where
  c : Value
  slot : Option Nat
  ts : Addr → Value → Option Addr → TS
def goneD (D : Ends) (i : Nat) : Ends := { nx := fun σ H => D.nx (σ.set i none) H, rt := D.rt, bk := fun σ H => D.bk (σ.set i none) H, ct := fun σ H => D.ct (σ.set i none) H }
def Hdl.take (h : Hdl) (D : Ends) (a : Addr) (cls : Value) (d : Option Addr) (σ : L2.St) (H : Hp) : Prop := match h.slot with
  | none => h.ts a cls d D σ H
  | some i => h.ts a cls d (goneD D i) (σ.set i (some (.ref a))) H
def wH (K : PySem.W.Frag) (Wout : WX) (D : Ends) : List Hdl → WX
  | [] => Wout
  | h :: r => fun cls d σ H => ∃ b, PySem.W.exmOne K cls h.c = some b ∧ (b = true → ∀ a, H a = none → h.take D a cls d σ H) ∧ (b = false → wH K Wout D r cls d σ H)
inductive HdlsOk (X : Cx) : List ExceptHandler → List Hdl → Prop
  | nil : HdlsOk X [] []
  | plain {x : Str} {c : Value} {ts : Addr → Value → Option Addr → TS} {b₀ : Stmt} {suite : List Stmt} {np pos' : Pos} {hs : List ExceptHandler} {l : List Hdl} (hc : Names X x c)
      (body : ∀ (a : Addr) (oe : Obj) (cls : Value) (d : Option Addr) (pn : List (Addr × Obj)), Zc cls d oe → (∃ vs, oe.data = .fields vs) → PSs (X.suite a ((a, oe) :: pn)) (b₀ :: suite) (ts a cls d)) (r : HdlsOk X hs l) :
      HdlsOk X (.ExceptHandler (some (.Name x np)) none (b₀ :: suite) pos' :: hs) (⟨c, none, ts⟩ :: l)
  | named {x n : Str} {i : Nat} {c : Value} {ts : Addr → Value → Option Addr → TS} {b₀ : Stmt} {suite : List Stmt} {np pos' : Pos} {hs : List ExceptHandler} {l : List Hdl} (hc : Names X x c) (hi : X.N[i]? = some n) (hl : X.env.kindOf n = some .local)
      (body : ∀ (a : Addr) (oe : Obj) (cls : Value) (d : Option Addr) (pn : List (Addr × Obj)), Zc cls d oe → (∃ vs, oe.data = .fields vs) → PSs (X.suite a ((a, oe) :: pn)) (b₀ :: suite) (ts a cls d)) (r : HdlsOk X hs l) :
      HdlsOk X (.ExceptHandler (some (.Name x np)) (some n) (b₀ :: suite) pos' :: hs) (⟨c, some i, ts⟩ :: l)
section
variable {X : Cx} {pins : List (Addr × Obj)} {a : Addr} {cls : Value} {d : Option Addr} {σ : L2.St} {H : Hp} {s : Shared} {D : Ends} {Wout : WX}
/-- the test of a clause -/
theorem Air.test {x : Str} {c : Value} {np : Pos} {b : Bool} {P : Bool → Shared → Prop} {E E' : Value → Shared → Prop} (q : Air X pins a cls d σ H s) (hc : Names X x c) (hb : PySem.W.exmOne X.K cls c = some b) (h : P b s) :
    wpAny (model X.prog X.w) (X.A.mark (some (.ref a))) (eval (.Name x np) X.env) (fun c s₁ => wpAny (model X.prog X.w) (X.A.mark (some (.ref a))) (excMatches (.ref a) c) P E s₁) E' s := by
  obtain ⟨oe, at_a, zc, _, S⟩ := q.suite
  have LT : PySem.W.Looks (model X.prog X.w) s.heap (typeOf (.ref a)) cls := fun A Q E s k q => wpAny_typeOf_ref (k _ _ at_a) (by rw [zc.1]; exact q)
  have LM := PySem.W.exm_one (M := model X.prog X.w) q.inv.kIn LT hb
  obtain ⟨glob, ndb, isOwn | ⟨no, isB, nn⟩⟩ := hc
  · exact ld_glob (X := X.suite a ((a, oe) :: (X.pn ++ pins))) S glob isOwn (LM.here h) ndb
  · exact ld_blt (X := X.suite a ((a, oe) :: (X.pn ++ pins))) S glob no isB (LM.here h) nn ndb
theorem Air.by {hs : List ExceptHandler} {l : List Hdl} (hN : X.N.Nodup) (hf : X.env.frame = some X.env.locals) (tk : Takes X Wout) (q : Air X pins a cls d σ H s) (ok : HdlsOk X hs l) (w : wH X.K Wout D l cls d σ H) : wpAny (model X.prog X.w) X.A (handleBy (.ref a) X.env hs) (SP X pins D) X.xe s := by
  induction ok with
  | nil => exact q.pass hf tk w
  | plain hc body r ih =>
    obtain ⟨b, hb, yes, no⟩ := w
    refine wpAny_handleBy_cons (codeAny_handlers_test (q.test hc hb ?_)) (by intro z; cases z)
    cases b with
    | false => exact ih (no rfl)
    | true =>
      refine codeAny_handlers_suite (q.again fun t qt => ?_)
      obtain ⟨oe, at_a, zc, fields, S⟩ := qt.suite
      refine wpAny_mono ((body a oe cls d (X.pn ++ pins) zc fields).run [] t σ H _ S (yes rfl a q.na)) (fun f s6 h => ?_) fun _ _ z => z.elim
      cases f <;> first
        | (obtain ⟨v, _, _, S6, r6, q6⟩ := h; exact ⟨_, _, _, S6.unsuite q.inv.ok, r6, q6⟩)
        | (obtain ⟨_, _, S6, q6⟩ := h; exact ⟨_, _, S6.unsuite q.inv.ok, q6⟩)
  | @named x n i c ts b₀ suite np pos' hs l hc hi hl body r ih =>
    obtain ⟨b, hb, yes, no⟩ := w
    refine wpAny_handleBy_cons (codeAny_handlers_test (q.test hc hb ?_)) (by intro z; cases z)
    cases b with
    | false => exact ih (no rfl)
    | true =>
      refine codeAny_handlers_suite_as (q.again fun t qt => ?_)
      obtain ⟨oe, at_a, zc, fields, S⟩ := qt.suite
      refine store_ok (X := X.suite a ((a, oe) :: (X.pn ++ pins))) (v := .ref a) S hN hi (.inl hl) rfl (fun s5 S5 => ?_) (.inr hl)
      refine wpAny_mono ((body a oe cls d (X.pn ++ pins) zc fields).run [] s5 _ H _ S5 (yes rfl a q.na)) (fun f s6 h => ?_) fun _ _ z => z.elim
      have fin : ∀ {σ6 : L2.St} {H6 : Hp} {P : Shared → Prop}, Inv (X.suite a ((a, oe) :: (X.pn ++ pins))) [] σ6 H6 s6 → (∀ s7, Inv X pins (σ6.set i none) H6 s7 → P s7) → wpAny (model X.prog X.w) X.A (do bindName X.env n .none; unbindBehindTheSuite X.env n pos') (fun _ s7 => P s7) X.xe s6 :=
        fun {σ6 H6 P} S6 hp => gone_ok (S6.unsuite q.inv.ok) hN hi hl hp
      cases f <;> first
        | (obtain ⟨v, _, _, S6, r6, q6⟩ := h; exact fin S6 fun s7 J7 => ⟨_, _, _, J7, r6, q6⟩)
        | (obtain ⟨_, _, S6, q6⟩ := h; exact fin S6 fun s7 J7 => ⟨_, _, J7, q6⟩)
theorem ps_try_h {body : List Stmt} {h₀ : ExceptHandler} {hs : List ExceptHandler} {l : List Hdl} {tb : WX → TS} {pos : Pos} (hst : X.stack = X.env :: X.outer) (hf : X.env.frame = some X.env.locals) (hN : X.N.Nodup) (tk : Takes X Wout)
    (hb : ∀ (W : WX) (pn : List (Addr × Obj)) (xe : Value → Shared → Prop), Takes (X.tr pn xe) W → PassesOwn (model X.prog X.w) X.A X.env xe → PSs (X.tr pn xe) body (tb W)) (hh : HdlsOk X (h₀ :: hs) l) :
    PS X (.Try body (h₀ :: hs) [] [] pos) (fun D σ H => tb (wH X.K Wout D l) D σ H) :=
  ⟨fun pins s σ H D I h => by
    refine wpAny_Try_except (wpAny_mono ((hb (wH X.K Wout D l) (X.pn ++ pins) _ (fun u s' x => ?_) PassesOwn.looking).run [] s σ H D (I.toTry _) h) (fun f s1 r => ?_) fun _ _ e => e)
    · exact air_of I.ok hst hf x fun a cls d σ' H' t e q w => by
        subst e
        exact q.by hN hf tk hh w
    · cases f with
      | next =>
        obtain ⟨σ', H', J, q⟩ := r
        exact wpAny_execs_nil ⟨σ', H', J.ofTry I.ok, q⟩
      | brk =>
        obtain ⟨σ', H', J, q⟩ := r
        exact ⟨σ', H', J.ofTry I.ok, q⟩
      | cont =>
        obtain ⟨σ', H', J, q⟩ := r
        exact ⟨σ', H', J.ofTry I.ok, q⟩
      | ret u =>
        obtain ⟨v, σ', H', J, rv, q⟩ := r
        exact ⟨v, σ', H', J.ofTry I.ok, rv, q⟩⟩
end
end ND

/-! ND14: try by data (clauses that end with return) -/
namespace ND
open PySem PySem.Spec L2
open PyProof.Rows (envOfC)

theorem xd_notW {W : WT} {F H : Hp} {dx : Addr} {vs : List (Str × V)} (dk : DeckIn W F H) (e : H dx = some (.xd vs)) : ¬ InW W dx := fun z => by
  rcases z with ⟨pp, ep, o⟩ | ⟨x, hx, rfl⟩
  · obtain ⟨ns, m, n, h1, h2, _⟩ := (dk.dk _ ep).st
    rcases o with o | o <;> subst o
    · rw [h1] at e
      cases e
    · rw [h2] at e
      cases e
  · obtain ⟨ps, h1, _⟩ := dk.tb x hx
    rw [h1] at e
    cases e
theorem Rel.rebase {B : Bs} {F0 H0 : Hp} {K : Kn} {σ : List SV} {s : L2.St} {F H : Hp} (g : Grow B.W B.F B.H F0 H0) (b : DeckIn B.W B.F B.H) (R : Rel ⟨B.W, F0, H0⟩ K σ s F H) : Rel B K σ s F H := by
  obtain ⟨own, O, q⟩ := R.slots
  exact ⟨g.trans R.base, b, R.deck, R.len, own, ⟨O.inj, fun i a e => ⟨g.back (O.free i a e).1, (O.free i a e).2⟩⟩, q⟩
theorem rel_no {W : WT} {K : Kn} {F H : Hp} (e : Same F H) (dk : DeckIn W F H) (s : L2.St) : Rel ⟨W, F, H⟩ K (List.replicate s.length .no) s F H :=
  ⟨Grow.refl e, dk, dk, by simp, fun _ => none, ⟨fun _ _ _ z => (nomatch z), fun _ _ z => (nomatch z)⟩, fun i x v e1 _ => by
    have := List.eq_of_mem_replicate (List.mem_of_getElem? e1)
    subst this
    exact True.intro⟩
/-- the error er, of the class cls, its dict d, as it stands where a clause begins -/
structure ErAt (K : Kn) (W : WT) (F H : Hp) (cls : Value) (d : Option Addr) (er : Er) : Prop where
  ex : Same F H
  dk : DeckIn W F H
  rep : RepEr K F H cls d er
/-- a clause by data: its class's name, the slot of its name, its suite's reading -/
structure Cls3 where
  nm : Str
  slot : Option Nat
  g : Er → Addr → GS
def clauseStart (n : Nat) (a : Addr) : Option Nat → List SV
  | none => List.replicate n .no
  | some i => (List.replicate n .no).set i (.d (.opq (.ref a)))
/-- what is wanted of an error: by the first clause that takes it, else out -/
def hdG (M : Str → Str → Option Bool) (n : Nat) (out : Er → Prop) (Q : D → Prop) : List Cls3 → Er → Prop
  | [], er => out er
  | c :: r, er => ∃ b, M er.nm c.nm = some b ∧ if b = true then ∀ a, c.g er a { nx := fun _ => False, rt := Q, bk := fun _ => False, ct := fun _ => False } (clauseStart n a c.slot) else hdG M n out Q r er
def tsH (B : Bs) (K : Kn) (g : Er → Addr → GS) (a : Addr) (cls : Value) (d : Option Addr) : TS := fun Dn s H => ∃ F0 H0 er, ErAt K B.W F0 H0 cls d er ∧ LS ⟨B.W, F0, H0⟩ K (g er a) Dn s H
inductive ClausesOk (B : Bs) (X : Cx) : List ExceptHandler → List Cls3 → List Hdl → Prop
  | nil : ClausesOk B X [] [] []
  | plain {x : Str} {cv : Value} {g : Er → Addr → GS} {b₀ : Stmt} {suite : List Stmt} {np pos' : Pos} {hs : List ExceptHandler} {l : List Cls3} {l' : List Hdl} (hg : Gl X x) (nd : (x == ("__debug__" : Str)) = false) (hm : X.mg x = some cv)
      (body : ∀ (a : Addr) (oe : Obj) (cls : Value) (d : Option Addr) (pn : List (Addr × Obj)) (F0 H0 : Hp) (er : Er), Zc cls d oe → (∃ vs, oe.data = .fields vs) → ErAt X.kn B.W F0 H0 cls d er → SDs ⟨B.W, F0, H0⟩ (X.suite a ((a, oe) :: pn)) (b₀ :: suite) (g er a)) (r : ClausesOk B X hs l l') :
      ClausesOk B X (.ExceptHandler (some (.Name x np)) none (b₀ :: suite) pos' :: hs) (⟨x, none, g⟩ :: l) (⟨cv, none, fun a cls d => tsH B X.kn g a cls d⟩ :: l')
  | named {x n : Str} {i : Nat} {cv : Value} {g : Er → Addr → GS} {b₀ : Stmt} {suite : List Stmt} {np pos' : Pos} {hs : List ExceptHandler} {l : List Cls3} {l' : List Hdl} (hg : Gl X x) (nd : (x == ("__debug__" : Str)) = false) (hm : X.mg x = some cv) (hi : X.N[i]? = some n) (hl : X.env.kindOf n = some .local)
      (body : ∀ (a : Addr) (oe : Obj) (cls : Value) (d : Option Addr) (pn : List (Addr × Obj)) (F0 H0 : Hp) (er : Er), Zc cls d oe → (∃ vs, oe.data = .fields vs) → ErAt X.kn B.W F0 H0 cls d er → SDs ⟨B.W, F0, H0⟩ (X.suite a ((a, oe) :: pn)) (b₀ :: suite) (g er a)) (r : ClausesOk B X hs l l') :
      ClausesOk B X (.ExceptHandler (some (.Name x np)) (some n) (b₀ :: suite) pos' :: hs) (⟨x, some i, g⟩ :: l) (⟨cv, some i, fun a cls d => tsH B X.kn g a cls d⟩ :: l')
/-- the classes' relations -/
def ClsTab (K : Kn) (M : Str → Str → Option Bool) : Prop := ∀ x y b u v, M x y = some b → K.mg x = some u → K.mg y = some v → PySem.W.exmOne K.K u v = some b
section
variable {B : Bs} {X : Cx} {M : Str → Str → Option Bool}
theorem pss_er {X' : Cx} {sts : List Stmt} {g : Er → Addr → GS} {a : Addr} {cls : Value} {d : Option Addr} {K : Kn} (hk : X'.kn = K) (h : ∀ F0 H0 er, ErAt K B.W F0 H0 cls d er → SDs ⟨B.W, F0, H0⟩ X' sts (g er a)) : PSs X' sts (tsH B K g a cls d) :=
  ⟨fun pins s σ H Dn I ⟨F0, H0, er, at_, q⟩ => (h F0 H0 er at_).run.run pins s σ H Dn I (by rw [hk]; exact q)⟩
theorem ClausesOk.hdls {hs : List ExceptHandler} {l : List Cls3} {l' : List Hdl} (ok : ClausesOk B X hs l l') : HdlsOk X hs l' := by
  induction ok with
  | nil => exact .nil
  | plain hg nd hm body r ih => exact .plain ⟨hg, nd, .inl hm⟩ (fun a oe cls d pn zc fs => pss_er rfl fun F0 H0 er z => body a oe cls d pn F0 H0 er zc fs z) ih
  | named hg nd hm hi hl body r ih => exact .named ⟨hg, nd, .inl hm⟩ hi hl (fun a oe cls d pn zc fs => pss_er rfl fun F0 H0 er z => body a oe cls d pn F0 H0 er zc fs z) ih
theorem Same.trans' {A B C : Hp} (a : Same A B) (b : Same B C) : Same A C := a.trans b
/-- a clause takes what it is wanted to take -/
theorem ClausesOk.takes {hs : List ExceptHandler} {l : List Cls3} {l' : List Hdl} (ok : ClausesOk B X hs l l') {F F' H' : Hp} {Ed : Ed} {Dn : Ends} {Wout : WX} {out : Er → Prop} {cls : Value} {d : Option Addr} {er : Er} {s : L2.St} (hM : ClsTab X.kn M)
    (k : EdOk B X.kn F Ed Dn) (g : Grow B.W B.F B.H F' H') (dk : DeckIn B.W F' H') (rp : RepEr X.kn F' H' cls d er) (hl : s.length = X.N.length)
    (ho : out er → Wout cls d s H') (w : hdG M X.N.length out Ed.rt l er) : wH X.K Wout Dn l' cls d s H' := by
  have ends : ∀ i : Option Nat, EdOk ⟨B.W, F', H'⟩ X.kn F' { nx := fun _ => False, rt := Ed.rt, bk := fun _ => False, ct := fun _ => False } (match i with | none => Dn | some i => goneD Dn i) := fun i =>
    ⟨fun _ _ _ _ _ _ z => z.elim, fun dd v F2 H2 g2 dk2 r2 q => by
      have := k.rt dd v F2 H2 (g.trans g2) dk2 r2 q
      cases i <;> exact this, fun _ _ _ _ _ _ z => z.elim, fun _ _ _ _ _ _ z => z.elim⟩
  induction ok with
  | nil => exact ho w
  | @plain x cv gg b₀ suite np pos' hs l l' hg nd hm body r ih =>
    obtain ⟨b, hb, q⟩ := w
    refine ⟨b, hM _ _ _ _ _ hb rp.1 hm, fun e a na => ?_, fun e => ?_⟩
    · subst e
      have q1 := q a
      have R := rel_no (W := B.W) (K := X.kn) g.fh dk s
      rw [hl] at R
      exact ⟨F', H', er, ⟨g.fh, dk, rp⟩, _, F', _, R, q1, ends none⟩
    · subst e
      exact ih q
  | @named x n i cv gg b₀ suite np pos' hs l l' hg nd hm hi hll body r ih =>
    obtain ⟨b, hb, q⟩ := w
    refine ⟨b, hM _ _ _ _ _ hb rp.1 hm, fun e a na => ?_, fun e => ?_⟩
    · subst e
      have q1 := q a
      have R := (rel_no (W := B.W) (K := X.kn) g.fh dk s).set (i := i) (v := .ref a) (x := .opq (.ref a)) (.opq _)
      rw [hl] at R
      exact ⟨F', H', er, ⟨g.fh, dk, rp⟩, _, F', _, R, q1, ends (some i)⟩
    · subst e
      exact ih q
/-- try: body, except ..: clauses, each of which returns -/
@[simp] def gTry (M : Str → Str → Option Bool) (n : Nat) (R : Er → Prop) (tb : (Er → Prop) → GS) (l : List Cls3) (E : Ed) (σ : List SV) : Prop := tb (hdG M n R E.rt l) E σ
theorem sd_try {body : List Stmt} {h₀ : ExceptHandler} {hs : List ExceptHandler} {l : List Cls3} {l' : List Hdl} {tb : (Er → Prop) → GS} {pos : Pos} {R : Er → Prop} {E : XK} (hst : X.stack = X.env :: X.outer) (hf : X.env.frame = some X.env.locals) (hN : X.N.Nodup)
    (tk : Takes X (fun c o _ H => E c o H)) (hE : FinE B.W X.kn B.F B.H R E) (hM : ClsTab X.kn M)
    (hb : ∀ (pn : List (Addr × Obj)) (xe : Value → Shared → Prop) (E' : XK) (R' : Er → Prop), Passes (L2.CX X.prog X.w) (X.tr pn xe) E' → FinE B.W X.kn B.F B.H R' E' → PassesOwn (model X.prog X.w) X.A X.env xe → SDs B (X.tr pn xe) body (tb R'))
    (hh : ClausesOk B X (h₀ :: hs) l l') : SD B X (.Try body (h₀ :: hs) [] [] pos) (gTry M X.N.length R tb l) :=
  ⟨ps_imp (ps_try_h (Wout := fun c o _ H => E c o H) (tb := fun W Dn s H => ∃ R', FinE B.W X.kn B.F B.H R' (fun c o H => ∀ s : L2.St, s.length = X.N.length → W c o s H) ∧ LS B X.kn (tb R') Dn s H) hst hf hN tk
      (fun W pn xe tk' po => ⟨fun pins s σ H Dn I ⟨R', fin, q⟩ => (hb pn xe _ R' (fun pins σ H s e s' I c => tk' e s' (XE.of_call I (fun cls d H' h => h σ I.len) c)) fin po).run.run pins s σ H Dn I q⟩) hh.hdls)
    fun Dn s H ⟨σ, F, Ed, Rl, q, k⟩ => ⟨hdG M X.N.length R Ed.rt l, fun er w F' H' c o g dk rp s' hl =>
      hh.takes hM k g dk rp hl (fun ro => hE er ro F' H' c o g dk rp) w, σ, F, Ed, Rl, q, k⟩⟩
end
/-! ### within a clause: the error's field -/
/-- what the written part says of a class whose errors' fields are read -/
structure ErGet (K : PySem.W.Frag) (C : Addr) (fld : Str) : Prop where
  ga : PySem.W.findIn K (.ref C) "__getattribute__" = some (some (.builtin "BaseException.__getattribute__"))
  gg : PySem.W.findIn K (.ref C) "__getattr__" = some none
  exC : PySem.W.subIn K (.ref C) (.type "BaseException") = some true
  hdC : PySem.W.hasDictIn K C = true
  noN : PySem.W.findIn K (.ref C) fld = some none
/-- the classes nm of which known is true may be asked for fld -/
def GetTab (K : Kn) (known : Str → Bool) (fld : Str) : Prop := ∀ nm, known nm = true → ∃ C, K.mg nm = some (.ref C) ∧ ErGet K.K C fld
def gErF (known : Str → Bool) (fld : Str) (i : Nat) (er : Er) (a : Addr) (σ : List SV) (Q : D → Prop) : Prop := σ[i]? = some (.d (.opq (.ref a))) ∧ known er.nm = true ∧ ∃ x, er.fs.lookup fld = some x ∧ Q x
theorem repFs_look {K : Kn} {F : Hp} {f : Str} {x : D} : ∀ {vs : List (Str × V)} {ds : List (Str × D)}, RepFs K F vs ds → ds.lookup f = some x → ∃ v, vs.lookup f = some v ∧ Rep K F v x
  | _, _, .nil, h => by simp at h
  | (k, v) :: vs, (_, d) :: ds, .cons r t, h => by
    rw [List.lookup_cons] at h ⊢
    cases e : f == k with
    | true =>
      rw [e] at h
      cases h
      exact ⟨v, rfl, r⟩
    | false =>
      rw [e] at h
      exact repFs_look t h
section
variable {X : Cx} {W : WT} {F0 H0 : Hp} {cls : Value} {d : Option Addr} {er : Er} {a : Addr} {oe : Obj} {pn : List (Addr × Obj)} {known : Str → Bool} {fld x : Str} {i : Nat} {pos p : Pos}
theorem ed_erF (at_ : ErAt X.kn W F0 H0 cls d er) (zc : Zc cls d oe) (fields : ∃ vs, oe.data = .fields vs) (G : GetTab X.kn known fld) (he : PE (X.suite a ((a, oe) :: pn)) (.Name x p) (tVar i)) (hb : attributeBase (.Name x p) fld X.env (eval (.Name x p) X.env) = eval (.Name x p) X.env := by rfl) :
    ED ⟨W, F0, H0⟩ (X.suite a ((a, oe) :: pn)) (.Attribute (.Name x p) fld pos) (gErF known fld i er a) :=
  ⟨⟨fun pins s σ H Q I ⟨σd, F, Qd, R, ⟨sl, kn, y, hy, q⟩, k⟩ => by
    obtain ⟨C, gC, T⟩ := G _ kn
    obtain ⟨eC, hf, _⟩ := at_.rep
    have ec : cls = .ref C := Option.some.inj (eC.symm.trans gC)
    subst ec
    have ne : er.fs ≠ [] := fun z => by
      rw [z] at hy
      cases hy
    obtain ⟨dx, vs, rfl, at_dx, rf⟩ := hf ne
    obtain ⟨v, hv, rv⟩ := repFs_look rf hy
    obtain ⟨w0, hs, rw0⟩ := R.dat sl
    cases rw0
    have notW : ¬ InW W dx := xd_notW at_.dk at_dx
    refine attr_of hb (thn (he.run pins s σ H (fun w G1 => w = .ref a ∧ G1 = H) I ⟨_, hs, rfl, rfl⟩) fun u s1 ⟨w, H1, I1, rx, ew, eH⟩ => ?_)
    subst ew eH
    obtain rfl : u = Value.ref a := rx
    have st : H1 dx = some (.xd vs) := R.base.hh dx _ at_dx notW (by intro _ z; cases z)
    obtain ⟨held, _⟩ := I1.pin (a, oe) (List.mem_append_left _ List.mem_cons_self)
    obtain ⟨fv, hd⟩ := fields
    obtain ⟨mA, hns, hr⟩ := (show ObjOk X.prog X.w H1 s1.heap dx (.xd vs) from I1.hok dx _ st)
    obtain ⟨od, ho, hl⟩ := lookIn_ns hns
    obtain ⟨u, hu, ru⟩ := RelO.some_of (v := v) (o := mA fld) (by rw [← hv]; exact hr fld)
    have J : PySem.W.InstAt s1.heap a oe C (some od) := ⟨held, zc.1, by unfold PySem.W.notCls; rw [hd] <;> rfl, by rw [zc.2]; exact ho⟩
    exact HandSPX.exc_get I1.kIn J T.ga T.gg T.exC (PySem.W.findObj_own T.hdC T.noN rfl (by rw [hl, hu])) (handed_of ru) ⟨v, H1, I1.tok _, ru, k _ q F H1 v (Grow.refl R.ex) R.deck (rv.mono R.base.ff)⟩⟩⟩
end
end ND

/-! ND15: isinstance of a caught error that has a dict -/
namespace ND
open PySem PySem.Spec PySem.W PySem.Calls PyProof.Rows
section
variable {prog : Program} {w : World} {A : Around} {E : Value → Shared → Prop} {K : Frag} {x D : Addr} {ox : Obj} {od : Option Obj}
theorem find_class (T : L2.ExcC K D) : findObj K D od "__class__" = some (.bind (.builtin "getset_descriptor.__get__") (.builtin "object.__class__")) := by
  obtain ⟨cd, hc, _⟩ := any_some T.hd
  unfold findObj
  rw [hc, Option.bind_some, T.ha, Option.bind_some]
  simp [T.hn, T.ht]
theorem ask_class {s : Shared} {Q : Option Value → Shared → Prop} (T : L2.ExcC K D) (X : K.In s.heap) (J : InstAt s.heap x ox D od) (done : Q (some (.ref D)) { s with toks := s.toks + 1 }) : wpAny (model prog w) A (getAttr? (.ref x) "__class__") Q E s := by
  obtain ⟨hp, gs, dr, tk, os⟩ := s
  have isD := J.type (M := model prog w)
  have own := looks_findIn (M := model prog w) X T.hg
  have hook := looks_findIn (M := model prog w) X T.hk
  have got := looks_find (M := model prog w) X J (find_class T)
  have over : Looks (model prog w) hp (isInstance (.ref x) (.type "BaseException")) true := isD.andThen (looks_subIn X T.hs)
  have differs : (Value.builtin "BaseException.__getattribute__" == Value.builtin "object.__getattribute__") = false := by decide +kernel
  unfold getAttr? getAttrBy? getAttrBy
  refine wpAny_bind (wpAny_mkText (wpAny_bind (wpAny_attempt (wpAny_holding (wpAny_bind (isD.at (wpAny_bind (own.at ?_))))))))
  show wpAny _ _ (if (onTheHeap (Value.ref D) && Value.builtin "BaseException.__getattribute__" == Value.builtin "object.__getattribute__") = true then _ else _) _ _ _
  rw [differs, Bool.and_false, if_neg Bool.false_ne_true]
  unfold getAttrByItsOwn hookBefore
  refine wpAny_bind ?_
  rw [if_pos (show onTheHeap (Value.ref D) = true from rfl)]
  refine hook.at (wpAny_bind (wpAny_attempt (wpAny_holding ?_)))
  unfold callGetattribute
  rw [if_neg (show ¬ (false && onTheHeap (Value.builtin "BaseException.__getattribute__")) = true from Bool.false_ne_true)]
  unfold boundAndCalled
  rw [F.excAttr_ValueError.ga.bind (.ref x)]
  refine wpAny_bind (wpAny_pure ?_)
  show wpAny _ _ (call (.builtin "BaseException.__getattribute__") [.ref x, .str "__class__" tk]) _ _ _
  refine wpAny_call (codeAny_call_builtin F.excAttr_ValueError.ga.plain F.entry_bexc_ga (@check_slot (model prog w) _ _ ⟨hp, gs, dr, tk + 1, os⟩ "BaseException.__getattribute__" "BaseException" "__getattribute__" (.ref x) [.str "__class__" tk] [] _ (by decide +kernel) (by decide +kernel) over (F.args_bexc_ga (.ref x) (.str "__class__" tk)) ?_))
  unfold Builtin.«object.__getattribute__»
  refine wpAny_bind (wpAny_of_eq (a := ((Value.ref x : Value), [Value.str "__class__" tk])) (by first | rfl | (simp only [slotArgs]; rfl)) (wpAny_bind (wpAny_pure (wpAny_bind (isD.at (wpAny_bind (got.at ?_)))))))
  show wpAny _ _ (holding [Value.builtin "object.__class__"] (call (.builtin "getset_descriptor.__get__") [.builtin "object.__class__", .ref x, .ref D]) >>= ret) _ _ _
  refine wpAny_bind (wpAny_holding (wpAny_call (class_get (s := ⟨hp, gs, dr, tk + 1, os⟩) (ox := ox) (od := od) X J T.hm (wpAny_pure ?_))))
  show wpAny _ _ (handedOut (.ref D)) _ _ _
  rw [handedOut_of (v := .ref D) rfl]
  first
    | exact wpAny_pure (wpAny_pure done)
    | exact wpAny_pure done
    | exact wpAny_pure (wpAny_bind (wpAny_pure (wpAny_pure done)))
theorem kit_err (T : L2.ExcC K D) : KitX K (.ref x) (.ref D) (fun h => InstAt h x ox D od) := by
  obtain ⟨cd, hc, _⟩ := any_some T.hd
  unfold clsIn at hc
  split at hc
  · rename_i c' d' cd' sl' ho
    refine ⟨fun _ _ _ J => J.type, ?_, ?_, fun X J k => ask_class T X J k⟩
    · intro _ h X _ A' Q' E' s' k q
      unfold isType loadHead
      exact wpAny_bind (wpAny_loadPart (k _ _ (X _ _ ho)) (wpAny_pure q))
    · intro h tp dd its n sl X htp
      refine Bool.eq_false_iff.mpr fun q => ?_
      have e : D = tp := Value.ref.inj (beq_iff_eq.mp q)
      subst e
      have z := (X _ _ ho).symm.trans htp
      cases z
  · cases hc
end
end ND

namespace ND
open PySem PySem.Spec L2
open PyProof.Rows (envOfC)
/-- the classes nm of which known is true may be asked whether they are of the class c -/
def IsiTab (K : Kn) (M : Str → Str → Option Bool) : Prop := ∀ x y b, M x y = some b → ∃ C D, K.mg x = some (.ref C) ∧ K.mg y = some (.ref D) ∧ ExcC K.K C ∧ PySem.W.kitOne K.K (.ref C) (.ref D) = some b
/-- isinstance(e, c), e the caught error -/
def gIsE (M : Str → Str → Option Bool) (c : Str) (i : Nat) (er : Er) (a : Addr) (σ : List SV) (Q : D → Prop) : Prop := σ[i]? = some (.d (.opq (.ref a))) ∧ ∃ b, M er.nm c = some b ∧ Q (.bl b)
section
variable {X : Cx} {W : WT} {F0 H0 : Hp} {cls : Value} {d : Option Addr} {er : Er} {a : Addr} {oe : Obj} {pn : List (Addr × Obj)} {M : Str → Str → Option Bool} {x c : Str} {i : Nat} {pos p p2 p3 : Pos}
theorem ed_isE (at_ : ErAt X.kn W F0 H0 cls d er) (zc : Zc cls d oe) (fields : ∃ vs, oe.data = .fields vs) (T : IsiTab X.kn M) (hg : Gl X "isinstance") (hm : X.mg "isinstance" = none) (gc : Gl X c) (ndb : (c == ("__debug__" : Str)) = false)
    (he : PE (X.suite a ((a, oe) :: pn)) (.Name x p) (tVar i)) (hst : starEach [.Name x p, .Name c p2] X.env = (false, eval (.Name x p) X.env) :: starEach [.Name c p2] X.env := by rfl) (hst2 : starEach [.Name c p2] X.env = [(false, eval (.Name c p2) X.env)] := by rfl)
    (hpl : (backTo pos (starEach [.Name c p2] X.env)).any (·.1) = false := by rfl) :
    ED ⟨W, F0, H0⟩ (X.suite a ((a, oe) :: pn)) (.Call (.Name "isinstance" p3) [.Name x p, .Name c p2] [] pos) (gIsE M c i er a) :=
  ⟨⟨fun pins s σ H Q I ⟨σd, F, Qd, R, ⟨sl, b, hb, q⟩, k⟩ => by
    obtain ⟨C, D, gC, gD, ok, kit⟩ := T _ _ _ hb
    obtain ⟨eC, hf, hno⟩ := at_.rep
    have ec : cls = .ref C := Option.some.inj (eC.symm.trans gC)
    subst ec
    obtain ⟨w0, hs, rw0⟩ := R.dat sl
    cases rw0
    have nameC : PE (X.suite a ((a, oe) :: pn)) (.Name c p2) (tC (.ref D)) := pe_glob gc gD rfl ndb
    by_cases ne : er.fs = []
    · have hd0 : d = none := hno ne
      subst hd0
      have ans : CallR (X.suite a ((a, oe) :: pn)) (.builtin "isinstance") (fun us G P => us = [V.ref a, V.ref D] ∧ P (.bl b) G) := fun pins s σ G us ws P I vals ⟨eu, done⟩ => by
        subst eu
        cases vals with
        | cons r1 vals =>
          cases vals with
          | cons r2 vals =>
            cases vals
            cases r1
            cases r2
            obtain ⟨held, _⟩ := I.pin (a, oe) (List.mem_append_left _ List.mem_cons_self)
            obtain ⟨fv, hd⟩ := fields
            have J : PySem.W.InstAt s.heap a oe C none := ⟨held, zc.1, by unfold PySem.W.notCls; rw [hd] <;> rfl, by rw [zc.2]; trivial⟩
            exact PySem.W.kia_one (kit_err ok) I.kIn J kit (fun z => nomatch z) fun tk => ⟨.bl b, G, I.kept (t' := tk) fun _ _ z => z, rfl, done⟩
      exact (pe_callB ans hg hm nbIsi (pa_cons he (pa_cons nameC pa_nil hst2) hst) (by decide) (by decide) hst hpl).run pins s σ H Q I ⟨_, hs, rfl, k _ q F H _ (Grow.refl R.ex) R.deck (.bl b)⟩
    · obtain ⟨dx, vs, rfl, at_dx, rf⟩ := hf ne
      have ans : CallR (X.suite a ((a, oe) :: pn)) (.builtin "isinstance") (fun us G P => us = [V.ref a, V.ref D] ∧ G dx = some (.xd vs) ∧ P (.bl b) G) := fun pins s σ G us ws P I vals ⟨eu, st, done⟩ => by
        subst eu
        cases vals with
        | cons r1 vals =>
          cases vals with
          | cons r2 vals =>
            cases vals
            cases r1
            cases r2
            obtain ⟨held, _⟩ := I.pin (a, oe) (List.mem_append_left _ List.mem_cons_self)
            obtain ⟨fv, hd⟩ := fields
            obtain ⟨mA, hns, hr⟩ := (show ObjOk X.prog X.w G s.heap dx (.xd vs) from I.hok dx _ st)
            obtain ⟨od, ho, _⟩ := lookIn_ns hns
            have J : PySem.W.InstAt s.heap a oe C (some od) := ⟨held, zc.1, by unfold PySem.W.notCls; rw [hd] <;> rfl, by rw [zc.2]; exact ho⟩
            exact PySem.W.kia_one (kit_err ok) I.kIn J kit (fun z => nomatch z) fun tk => ⟨.bl b, G, I.kept (t' := tk) fun _ _ z => z, rfl, done⟩
      have st : H dx = some (.xd vs) := R.base.hh dx _ at_dx (xd_notW at_.dk at_dx) (by intro _ z; cases z)
      exact (pe_callB ans hg hm nbIsi (pa_cons he (pa_cons nameC pa_nil hst2) hst) (by decide) (by decide) hst hpl).run pins s σ H Q I ⟨_, hs, rfl, st, k _ q F H _ (Grow.refl R.ex) R.deck (.bl b)⟩⟩⟩
end
end ND

/-! ND16: more built-in functions: sum, all, any, tuple, list, sorted, str -/
namespace ND
open PySem PySem.Spec L2
open PyProof.Rows (envOfC)
section
variable {prog : Program} {w : World} {A : Around} {E : Value → Shared → Prop} {s : Shared} {l : Addr} {its : List Value} {ns : List Int} {Q : Value → Shared → Prop}
theorem sum_tup (quiet : A.handled = none) (isT : s.heap.IsTuple l its.toArray) (areInts : PyProof.Rows.IntsAre its ns)
    (done : ∀ h' tk t', (∀ b o, s.heap.get? b = some o → h'.get? b = some o) → Q (.int ns.sum t') { s with heap := h', toks := tk }) : wpAny (model prog w) A (call (.builtin "sum") [.ref l]) Q E s := by
  obtain ⟨xs, e⟩ := areInts.allInts.items
  have nums : numsOf (intItems xs).toList = ns := by rw [← e]; exact areInts.numsOf
  rw [nums_intItems] at nums
  rw [e] at isT
  have small : l < s.heap.objs.size := by
    obtain ⟨_, at_l, _⟩ := isT
    exact Heap.lt_size at_l
  refine call_sum_walkG (wpAny_pyIter_tuple isT ?_)
  refine ⟨s.heap.objs.size, [s.heap.objs.size, l], [s.heap.objs.size], _, _, _, numAt xs, rfl, Walks.tuple (A := A.in1) quiet _ l (Nat.ne_of_lt small) (intItems xs), ⟨⟨_, Heap.get?_push_size _ rfl, rfl, rfl⟩, isT.push _⟩, fun b hb => ?_, (fun _ _ => intItems_at), fun h' tk t' hk => ?_⟩
  · show b < (s.heap.push _).objs.size
    rw [Heap.size_push]
    rcases List.mem_cons.mp hb with rfl | hb
    · exact Nat.lt_succ_self _
    · rw [List.mem_singleton.mp hb]
      exact Nat.lt_succ_of_lt small
  · have z := done h' tk t' fun b o eb => hk b o (fun m => absurd (Heap.lt_size eb) (List.mem_singleton.mp m ▸ Nat.lt_irrefl _)) (Heap.get?_push_of_some _ eb)
    have total : preSum (numAt xs) (intItems xs).size = ns.sum := by
      rw [preSum_eq, List.take_of_length_le (by simp [intItems]), nums]
    rw [total]
    exact z
end
section
variable {B : Bs} {X : Cx}
theorem cr_sumT (hc : X.calm = true) : CallR X (.builtin "sum") (fun vs H Q => ∃ (a : Addr) (ns : List Int), vs = [V.ref a] ∧ SqT X.K H a (ns.map V.int) ∧ Q (.int ns.sum) H) := fun pins s σ H vs us Q I r ⟨a, ns, ev, st, q⟩ => by
  subst ev
  obtain ⟨its, rv, isT, _⟩ := I.tuple st
  rw [Vals.ref1 r]
  exact sum_tup (I.ok.hd hc) (show s.heap.IsTuple _ its.toArray from isT) rv.ints fun h' tk t' kept => ⟨.int _, H, I.kept kept, ⟨_, rfl⟩, q⟩
/-- the integers of a list of data -/
def intsOf : List D → Option (List Int)
  | [] => some []
  | .int i :: r => (intsOf r).map (i :: ·)
  | _ :: _ => none
theorem intsOf_map : ∀ {ds : List D} {ns : List Int}, intsOf ds = some ns → ds = ns.map D.int
  | [], ns, h => by
    cases h
    rfl
  | .int i :: r, ns, h => by
    simp only [intsOf, Option.map_eq_some_iff] at h
    obtain ⟨m, h1, rfl⟩ := h
    rw [intsOf_map h1]
    rfl
@[simp] theorem intsOf_ints : ∀ ns : List Int, intsOf (ns.map D.int) = some ns
  | [] => rfl
  | n :: ns => by simp [intsOf, intsOf_ints ns]
theorem reps_of_ints {K : Kn} {F : Hp} : ∀ {vs : List V} {ns : List Int}, Reps K F vs (ns.map D.int) → vs = ns.map V.int
  | _, [], .nil => rfl
  | _, n :: ns, .cons (.int _) t => by rw [List.map_cons, reps_of_ints t]
def sumD : List D → (D → Prop) → Prop
  | [.lst xs], Q => ∃ ns, intsOf xs = some ns ∧ Q (.int ns.sum)
  | [.tup xs], Q => ∃ ns, intsOf xs = some ns ∧ Q (.int ns.sum)
  | _, _ => False
theorem c_sum (hc : X.calm = true) : CallR X (.builtin "sum") (LCa B X.kn sumD) := callR_by fun vs H Q ⟨F, ds, Qd, e, dk, r, q, k⟩ => by
  unfold sumD at q
  split at q
  · obtain ⟨v, rfl, r1⟩ := rb1 r
    obtain ⟨ns, h1, h2⟩ := q
    obtain ⟨a, us, rfl, st, rs⟩ := r1.lst e
    rw [intsOf_map h1] at rs
    rw [reps_of_ints rs] at st
    exact ⟨_, cr_sum hc, a, ns, rfl, SqL.of st, k.here e dk h2 (.int _)⟩
  · obtain ⟨v, rfl, r1⟩ := rb1 r
    obtain ⟨ns, h1, h2⟩ := q
    obtain ⟨a, us, rfl, _, st, rs⟩ := r1.tup e
    rw [intsOf_map h1] at rs
    rw [reps_of_ints rs] at st
    exact ⟨_, cr_sumT hc, a, ns, rfl, st, k.here e dk h2 (.int _)⟩
  · exact q.elim
/-- the bools of a list of data -/
def blsOf : List D → Option (List Bool)
  | [] => some []
  | .bl i :: r => (blsOf r).map (i :: ·)
  | _ :: _ => none
theorem blsOf_map : ∀ {ds : List D} {ns : List Bool}, blsOf ds = some ns → ds = ns.map D.bl
  | [], ns, h => by
    cases h
    rfl
  | .bl i :: r, ns, h => by
    simp only [blsOf, Option.map_eq_some_iff] at h
    obtain ⟨m, h1, rfl⟩ := h
    rw [blsOf_map h1]
    rfl
@[simp] theorem blsOf_bls : ∀ ns : List Bool, blsOf (ns.map D.bl) = some ns
  | [] => rfl
  | n :: ns => by simp [blsOf, blsOf_bls ns]
theorem reps_of_bls {K : Kn} {F : Hp} : ∀ {vs : List V} {ns : List Bool}, Reps K F vs (ns.map D.bl) → vs = ns.map V.bl
  | _, [], .nil => rfl
  | _, n :: ns, .cons (.bl _) t => by rw [List.map_cons, reps_of_bls t]
def allD : List D → (D → Prop) → Prop
  | [.lst xs], Q => ∃ bs, blsOf xs = some bs ∧ Q (.bl (bs.all id))
  | _, _ => False
def anyD : List D → (D → Prop) → Prop
  | [.lst xs], Q => ∃ bs, blsOf xs = some bs ∧ Q (.bl (bs.any id))
  | _, _ => False
theorem c_all (hc : X.calm = true) : CallR X (.builtin "all") (LCa B X.kn allD) := callR_by fun vs H Q ⟨F, ds, Qd, e, dk, r, q, k⟩ => by
  unfold allD at q
  split at q
  · obtain ⟨v, rfl, r1⟩ := rb1 r
    obtain ⟨bs, h1, h2⟩ := q
    obtain ⟨a, us, rfl, st, rs⟩ := r1.lst e
    rw [blsOf_map h1] at rs
    rw [reps_of_bls rs] at st
    exact ⟨_, cr_all hc, a, bs, rfl, SqL.of st, k.here e dk h2 (.bl _)⟩
  · exact q.elim
theorem c_any (hc : X.calm = true) : CallR X (.builtin "any") (LCa B X.kn anyD) := callR_by fun vs H Q ⟨F, ds, Qd, e, dk, r, q, k⟩ => by
  unfold anyD at q
  split at q
  · obtain ⟨v, rfl, r1⟩ := rb1 r
    obtain ⟨bs, h1, h2⟩ := q
    obtain ⟨a, us, rfl, st, rs⟩ := r1.lst e
    rw [blsOf_map h1] at rs
    rw [reps_of_bls rs] at st
    exact ⟨_, cr_any hc, a, bs, rfl, SqL.of st, k.here e dk h2 (.bl _)⟩
  · exact q.elim
def tupleD : List D → (D → Prop) → Prop
  | [.lst xs], Q => Q (.tup xs)
  | [.tup xs], Q => Q (.tup xs)
  | _, _ => False
theorem c_tuple : CallR X (.type "tuple") (LCa B X.kn tupleD) := callR_by fun vs H Q ⟨F, ds, Qd, e, dk, r, q, k⟩ => by
  unfold tupleD at q
  split at q
  · obtain ⟨v, rfl, r1⟩ := rb1 r
    obtain ⟨a, us, rfl, st, rs⟩ := r1.lst e
    exact ⟨_, call_tuple_of, a, us, rfl, .inl ⟨SqL.of st, fun p hp => k.frz e dk q hp (.tup (SqT.of upd_same) (rs.mono (same_new (e.free hp))))⟩⟩
  · obtain ⟨v, rfl, r1⟩ := rb1 r
    obtain ⟨a, us, rfl, sf, st, rs⟩ := r1.tup e
    exact ⟨_, call_tuple_of, a, us, rfl, .inr ⟨st, k.here e dk q (.tup sf rs)⟩⟩
  · exact q.elim
/-- a built-in function that gives a new list -/
def LCf (B : Bs) (K : Kn) (g : List D → (List D → Prop) → Prop) : List V → Hp → VK → Prop := fun vs H Q => ∃ F ds Qd, Same F H ∧ DeckIn B.W F H ∧ RepBs B.W K F H vs ds ∧ g ds Qd ∧ FinF B K F H Qd Q
@[simp] def gBltF (g : List D → (List D → Prop) → Prop) (fs : GA) (σ : List SV) (Q : List D → Prop) : Prop := fs σ fun ds => g ds Q
theorem tcbF_of {s : L2.St} {H : Hp} {Q : VK} {g : List D → (List D → Prop) → Prop} {fs : GA} (h : LF B X.kn (gBltF g fs) s H Q) : tCB (LCf B X.kn g) (LAB B X.kn fs) s H Q := by
  obtain ⟨σ, F, Qd, R, q, k⟩ := h
  exact ⟨σ, F, _, R, q, fun ds qd F1 H1 vs g1 d1 r1 => ⟨F1, ds, Qd, g1.fh, d1, r1, qd, k.more g1⟩⟩
def listD : List D → (List D → Prop) → Prop
  | [.lst xs], Q => Q xs
  | [.tup xs], Q => Q xs
  | _, _ => False
theorem c_list : CallR X (.type "list") (LCf B X.kn listD) := callR_by fun vs H Q ⟨F, ds, Qd, e, dk, r, q, k⟩ => by
  unfold listD at q
  split at q
  · obtain ⟨v, rfl, r1⟩ := rb1 r
    obtain ⟨a, us, rfl, st, rs⟩ := r1.lst e
    exact ⟨_, call_list_of, a, us, rfl, .inl (SqL.of st), fun p hp => k.laid e dk q hp rs⟩
  · obtain ⟨v, rfl, r1⟩ := rb1 r
    obtain ⟨a, us, rfl, _, st, rs⟩ := r1.tup e
    exact ⟨_, call_list_of, a, us, rfl, .inr st, fun p hp => k.laid e dk q hp rs⟩
  · exact q.elim
variable {x : Str} {p pos : Pos} {e : Expr} {es : List Expr} {fs : GA} {T id : String} {g : List D → (List D → Prop) → Prop}
theorem fd_callTy (hc : CallR X (.type T) (LCf B X.kn g)) (hg : Gl X x) (hm : X.mg x = none) (hv : bootBuiltins x = some (.type T)) (ha : ABD B X (e :: es) fs) (hn : x ≠ "__name__" := by decide) (hdb : (x == ("__debug__" : Str)) = false := by decide)
    (he : starEach (e :: es) X.env = (false, eval e X.env) :: starEach es X.env := by rfl) (hpl : (backTo pos (starEach es X.env)).any (·.1) = false := by rfl) : FD B X (.Call (.Name x p) (e :: es) [] pos) (gBltF g fs) :=
  ⟨pe_imp (pe_callTy hc hg hm hv ha.run hn hdb he hpl) fun s H Q h => tcbF_of h⟩
theorem fd_callB (hc : CallR X (.builtin id) (LCf B X.kn g)) (hg : Gl X x) (hm : X.mg x = none) (hv : bootBuiltins x = some (.builtin id)) (ha : ABD B X (e :: es) fs) (hn : x ≠ "__name__" := by decide) (hdb : (x == ("__debug__" : Str)) = false := by decide)
    (he : starEach (e :: es) X.env = (false, eval e X.env) :: starEach es X.env := by rfl) (hpl : (backTo pos (starEach es X.env)).any (·.1) = false := by rfl) : FD B X (.Call (.Name x p) (e :: es) [] pos) (gBltF g fs) :=
  ⟨pe_imp (pe_callB hc hg hm hv ha.run hn hdb he hpl) fun s H Q h => tcbF_of h⟩
/-- a division that stays with the plain way: the divisor short, or the dividend short -/
def DivPl (i j : Int) : Prop := j.natAbs.log2 < 9000 ∨ i.natAbs.log2 < 13500
theorem DivPl.no {i j : Int} (h : DivPl i j) : Builtin.divisionGoesByPylong i j = false := by
  rcases h with h | h
  · exact PyProof.noPylong_of_log2 h
  · show (decide ((if j == 0 then 0 else j.natAbs.log2 / 30 + 1) > 300) && decide ((if i == 0 then 0 else i.natAbs.log2 / 30 + 1) > (if j == 0 then 0 else j.natAbs.log2 / 30 + 1) + 150)) = false
    have k : (if i == 0 then 0 else i.natAbs.log2 / 30 + 1) ≤ 450 := by
      split
      · omega
      · omega
    generalize (if j == 0 then 0 else j.natAbs.log2 / 30 + 1) = y
    by_cases hy : y > 300
    · rw [decide_eq_false (fun z => by omega : ¬ _ > y + 150), Bool.and_false]
    · rw [decide_eq_false hy, Bool.false_and]
/-- floor division by any divisor but zero -/
def fdivA : D → D → (D → Prop) → Prop
  | .int i, .int j, Q => j ≠ 0 ∧ DivPl i j ∧ Q (.int (i.fdiv j))
  | _, _, _ => False
@[simp] theorem fdivA_i (i j : Int) (Q : D → Prop) : fdivA (.int i) (.int j) Q = (j ≠ 0 ∧ DivPl i j ∧ Q (.int (i.fdiv j))) := rfl
theorem op_fdivA : OpR X (binaryOp .FloorDiv) (rI (fun i j => j ≠ 0 ∧ DivPl i j) fun i j => .int (i.fdiv j)) := opI fun i j _ _ _ _ _ hc q => PyProof.Rows.floordiv_int hc.1 q (.inl hc.2.no)
theorem o_fdivA : OpR X (binaryOp .FloorDiv) (LO2 B X.kn fdivA) := opR_by fun v u H Q ⟨F, x, y, Qd, e, dk, r1, r2, q, k⟩ => by
  unfold fdivA at q
  split at q
  · exact ⟨_, op_fdivA, _, _, r1.int, r2.int, ⟨q.1, q.2.1⟩, k.here e dk q.2.2 (.int _)⟩
  · exact q.elim
/-- an error's class nm, at C, without an __init__ of its own -/
structure Er0 (K : PySem.W.Frag) (mg : Str → Option Value) (nm : Str) (C : Addr) : Prop where
  gC : mg nm = some (.ref C)
  ini : PySem.W.excIn K C exT "Exception.__new__" = true
  kC : PySem.W.keepIn K (.ref C) = true
  exC : PySem.W.subIn K (.ref C) (.type "BaseException") = some true
  tyC : PySem.W.typeIn K (.ref C) = some (.type "type")
theorem pmk_er0 {nm : Str} {C : Addr} {p pos : Pos} (T : Er0 X.K X.mg nm C) (hg : Gl X nm) (ndb : (nm == ("__debug__" : Str)) = false) : PMk X (.Call (.Name nm p) [] [] pos) (fun _ H Q => Q (.ref C) none H) :=
  fun pins s σ H Q I h => wpAny_Call_Name_kw (ld_glob I hg T.gC (PySem.W.callWith_K0 I.kIn T.kC (by
    obtain ⟨bm, N, nm, qn, bs, hdct, sn, sub, ab, col, dd, k0, k1, k2, k3, k5, mN, hC, hN, hni, tail⟩ := exc_obj I.kIn T.ini
    exact wpAny_call_exc_subT F.excBase_Exception tail hC hN hni (fun h' e hm => mk_of I hm (raises_own T.exC T.tyC) h (I.hok.gone hm.new)) (Nat.zero_le _))) ndb)
/-- raise nm() -/
@[simp] def gRaise0 (nm : Str) (R : Er → Prop) (_ : Ed) (_ : List SV) : Prop := R ⟨nm, []⟩
theorem sd_raise0 {nm : Str} {C : Addr} {p pos pos2 : Pos} {R : Er → Prop} {E : XK} (hc : X.calm = true) (T : Er0 X.K X.mg nm C) (tk : Takes X (fun c o _ H => E c o H)) (hE : FinE B.W X.kn B.F B.H R E) (hg : Gl X nm := by rfl) (ndb : (nm == ("__debug__" : Str)) = false := by decide) :
    SD B X (.Raise (some (.Call (.Name nm p) [] [] pos)) none pos2) (gRaise0 nm R) :=
  ⟨ps_imp (ps_raise hc tk (pmk_er0 T hg ndb)) fun Dn s H ⟨σ, F, Ed, Rl, q, kk⟩ => hE _ q F H (.ref C) none Rl.base Rl.deck ⟨T.gC, fun z => absurd rfl z, fun _ => rfl⟩⟩
/-- sorted of integers -/
def sortedD : List D → (List D → Prop) → Prop
  | [.lst xs], Q => ∃ ns, intsOf xs = some ns ∧ ∀ ms : List Int, ms.Perm ns → ms.Pairwise (· ≤ ·) → Q (ms.map D.int)
  | _, _ => False
end
end ND

/-! ND17: targets within targets; a statement t = e for any such target -/
namespace ND
open PySem PySem.Spec L2
open PyProof.Rows (envOfC)
variable {B : Bs} {X : Cx} {e t : Expr} {ts : List Expr} {pos : Pos} {fa : GE}
abbrev GGs := List D → List SV → (List SV → Prop) → Prop
structure GDs (B : Bs) (X : Cx) (ts : List Expr) (n : Nat) (gt : GGs) : Prop where
  run : ∃ u, PGs X ts u ∧ ∀ ds vs σ s F H (Qd : List SV → Prop) (Q : L2.St → Hp → Prop), Rel B X.kn σ s F H → Reps X.kn F vs ds → ds.length = n → gt ds σ Qd → (∀ σ' s', Rel B X.kn σ' s' F H → Qd σ' → Q s' H) → u vs s H Q
@[simp] def ggNil (_ : List D) (σ : List SV) (Q : List SV → Prop) : Prop := Q σ
@[simp] def ggCons (g : GG) (h : GGs) : List D → List SV → (List SV → Prop) → Prop
  | d :: ds, σ, Q => g d σ fun σ' => h ds σ' Q
  | [], _, _ => False
theorem gds_nil : GDs B X [] 0 ggNil := ⟨_, pgs_nil, fun ds vs σ s F H Qd Q R r hl q k => by
  cases ds with
  | nil => cases r with | nil => exact ⟨rfl, k _ _ R q⟩
  | cons _ _ => cases hl⟩
theorem gds_cons {n : Nat} {g : GG} {h : GGs} (h1 : GD B X t g) (h2 : GDs B X ts n h) (hs : (assignEach (t :: ts) X.env).map (·.2) = assign t X.env :: (assignEach ts X.env).map (·.2) := by rfl) : GDs B X (t :: ts) (n + 1) (ggCons g h) := by
  obtain ⟨u1, p1, w1⟩ := h1.run
  obtain ⟨u2, p2, w2⟩ := h2.run
  refine ⟨_, pgs_cons p1 p2 hs, fun ds vs σ s F H Qd Q R r hl q k => ?_⟩
  cases r with
  | nil => cases hl
  | cons r1 r2 => exact ⟨_, _, rfl, w1 _ _ _ _ _ _ _ _ R r1 q fun σ' s' R' q' => w2 _ _ _ _ _ _ _ _ R' r2 (by simpa using hl) q' k⟩
@[simp] def ggT (n : Nat) (h : GGs) (d : D) (σ : List SV) (Q : List SV → Prop) : Prop := unT n d fun ds => h ds σ Q
theorem gd_tupG {n : Nat} {h : GGs} {kt : Nat} (hc : X.calm = true) (hn : GDs B X ts n h) (hl : (assignEach ts X.env).length = n := by rfl) (hst : (assignEach ts X.env).findIdx? (·.1) = none := by rfl) : GD B X (.Tuple ts kt pos) (ggT n h) := by
  obtain ⟨u, p, w⟩ := hn.run
  refine ⟨_, pg_tup hc p hl hst, fun d v σ s F H Qd Q R r ⟨ds, e, hl, q⟩ k => ?_⟩
  subst e
  cases r with
  | tup h r => exact ⟨_, _, rfl, same_t R.ex h, by rw [r.length]; exact hl, w _ _ _ _ _ _ _ _ R r hl q k⟩
@[simp] def gSetG (gt : GG) (fa : GE) (E : Ed) (σ : List SV) : Prop := fa σ fun d => gt d σ E.nx
theorem sd_setG {gt : GG} (ht : GD B X t gt) (ha : ED B X e fa) (hs : swapsWithSole [t] e pos.line X.env = pure false := by rfl) (hw : swappedStores [t] e X.env = pure none := by rfl)
    (h1 : (assignEach [t] X.env).map (·.2) = [assign t X.env] := by rfl) : SD B X (.Assign [t] e pos) (gSetG gt fa) := by
  obtain ⟨u, p, w⟩ := ht.run
  exact ⟨ps_imp (ps_asg ha.run p hs hw h1) fun Dn s H ⟨σ, F, E, R, q, k⟩ => ⟨σ, F, _, R, q, fun d qd F' H' v g dk r => w _ _ _ _ _ _ _ _ (R.grow g dk) r qd fun σ' s' R' q' => k.nx _ _ F' H' g.ff R' q'⟩⟩
/-! classes: what an except clause asks -/
theorem clsIn_exc {K : PySem.W.Frag} {C : Addr} {bm : List Value} {id : String} (q : PySem.W.excIn K C bm id = true) : (PySem.W.clsIn K C).isSome = true := by
  unfold PySem.W.excIn at q
  split at q
  · rename_i h
    unfold PySem.W.clsIn
    rw [h]
    rfl
  · cases q
theorem exm_of {K : PySem.W.Frag} {C D : Addr} {b : Bool} (hc : (PySem.W.clsIn K D).isSome = true) (hs : PySem.W.subIn K (.ref D) (.type "BaseException") = some true) (ht : PySem.W.typeIn K (.ref D) = some (.type "type")) (hr : PySem.W.subIn K (.ref C) (.ref D) = some b) : PySem.W.exmOne K (.ref C) (.ref D) = some b := by
  have h1 : PySem.W.kitCls K (.ref C) (.ref D) = some b := by
    show (if ((PySem.W.clsIn K D).isSome && PySem.W.typeIn K (.ref D) == some (.type "type")) = true then PySem.W.subIn K (.ref C) (.ref D) else none) = _
    have e : ((PySem.W.clsIn K D).isSome && PySem.W.typeIn K (.ref D) == some (.type "type")) = true := by rw [hc, ht, Bool.true_and, beq_iff_eq]
    rw [if_pos e]
    exact hr
  unfold PySem.W.exmOne
  rw [if_pos (by rw [hs]; exact beq_self_eq_true _)]
  exact h1
end ND

/-! ND18: repr of integers of up to 4300 digits -/
namespace ND
open PySem PySem.Spec L2
open PyProof.Rows (envOfC)
section
variable {prog : Program} {w : World} {A : Around} {E : Value → Shared → Prop} {s : Shared} {i : Int} {t : Tok} {h₀ : Heap}
/-- an integer's own __repr__ -/
theorem big_repr {Q : Value → Shared → Prop} (hn : s.heap.NoDigits) (hb : i.natAbs < 10 ^ 4300) (q : Q (.str (toString i) s.toks) { s with toks := s.toks + 1 }) :
    wpAny (model prog w) A (call (.builtin "int.__repr__") [.int i t]) Q E s := by
  refine wpAny_call_entry F.slot_int_repr (typeIs_int s i t) F.entry_int_repr ?_ (F.args_int_repr_1 _)
  unfold Builtin.«int.__repr__»
  show wpAny _ _ (do let r ← Builtin.overDigitLimit? i; _) _ _ s
  refine wpAny_bind (PyProof.Rows.overDigitLimit_any hn (fun hl => wpAny_bind (wpAny_mkStr (wpAny_pure ⟨_, rfl, q⟩) (int_text_fits10 hl))) fun hg => ?_)
  exact absurd hb (Nat.not_lt.mpr hg)
mutual
/-- data whose repr can be told: integers below 10^4300 -/
def bigOk : PyData → Bool
  | .int i => decide (i.natAbs < 10 ^ 4300)
  | .list xs | .tuple xs => bigAll xs
  | .dict kvs => bigKv kvs
  | _ => true
def bigAll : List PyData → Bool
  | [] => true
  | d :: ds => bigOk d && bigAll ds
def bigKv : List (PyData × PyData) → Bool
  | [] => true
  | (k, d) :: ds => bigOk k && bigOk d && bigKv ds
end
theorem bigKv_split : ∀ kvs : List (PyData × PyData), bigKv kvs = true → bigAll (kvs.map (·.1)) = true ∧ bigAll (kvs.map (·.2)) = true
  | [], _ => ⟨rfl, rfl⟩
  | (k, d) :: r, h => by
    simp only [bigKv, Bool.and_eq_true] at h
    obtain ⟨h1, h2⟩ := bigKv_split r h.2
    simp only [List.map_cons, bigAll, Bool.and_eq_true]
    exact ⟨⟨h.1.1, h1⟩, h.1.2, h2⟩
/-- no dict among as is sys.modules -/
def SafeD (h : Heap) (as : List Addr) : Prop := ∀ a ∈ as, ∀ (o : Obj) (es : Array DictEntry) (n : Nat), h.get? a = some o → o.data = .dict es n → (a == sysModules) = false
theorem SafeD.sub {h : Heap} {as bs : List Addr} (s : SafeD h as) (e : ∀ a ∈ bs, a ∈ as) : SafeD h bs := fun a m => s a (e a m)
theorem big_one (hn : h₀.NoDigits) (hb : i.natAbs < 10 ^ 4300) (as : List Addr) (n : Nat) : ReprK prog w as h₀ n (.int i t) (toString i) := fun base hz A g E s Q hg _ hu hk q => by
  have hz' : base ≤ sizeLine := by omega
  rw [pyReprUnder_leaf (v := .int i t) hz' (fun _ e => nomatch e)]
  unfold pyRepr
  exact wpAny_bind (wpAny_pyReprObj_slot (by omega) (typeIs_int s i t) F.slot_int_repr.toG (big_repr (hn.keeps hk) hb ⟨_, _, rfl, wpAny_pure (q s.heap _ fun _ _ e => e)⟩))
mutual
theorem big_reads (hn : h₀.NoDigits) : ∀ {v : Value} {d : PyData} {as : List Addr}, Reads h₀ v d as → SafeD h₀ as → bigOk d = true → d.shown.length ≤ sizeLine → ∃ bs, ReadAtMost h₀ d.depth bs ∧ ReprK prog w bs h₀ d.depth v d.shown
  | _, _, _, .int i t, _, o, _ => ⟨[], nofun, by simp only [PyData.shown]; exact big_one hn (by simp only [bigOk] at o; exact of_decide_eq_true o) _ _⟩
  | _, _, _, .none, _, _, z => ReprK.of_reads .none rfl (fun e => by simp [PyData.hasDict] at e) z
  | _, _, _, .bool b, _, _, z => ReprK.of_reads (.bool b) rfl (fun e => by simp [PyData.hasDict] at e) z
  | _, _, _, .str x t, _, _, z => ReprK.of_reads (.str x t) rfl (fun e => by simp [PyData.hasDict] at e) z
  | _, _, _, .dict (a := a) (es := es) (kvs := kvs) g1 g2 g3 g4 g5, sf, o, z => by
    have z1 : (dictText (PyData.shownKv kvs)).length ≤ sizeLine := by simpa only [PyData.shown] using z
    obtain ⟨o1, o2⟩ := bigKv_split kvs (by simpa only [bigOk] using o)
    obtain ⟨b1, l1, k1⟩ := bigs_reads hn g4 (sf.sub fun _ m => List.mem_cons_of_mem _ (List.mem_append_left _ m)) o1 fun t m => by
      obtain ⟨p, mp, lp⟩ := PyData.shownKv_key_le kvs t m
      exact Nat.le_trans lp (Nat.le_trans (dictText_mem_le mp) z1)
    obtain ⟨b2, l2, k2⟩ := bigs_reads hn g5 (sf.sub fun _ m => List.mem_cons_of_mem _ (List.mem_append_right _ m)) o2 fun t m => by
      obtain ⟨p, mp, lp⟩ := PyData.shownKv_val_le kvs t m
      exact Nat.le_trans lp (Nat.le_trans (dictText_mem_le mp) z1)
    have rd := Reads.dict g1 g2 g3 g4 g5
    have low : ReadAtMost h₀ (PyData.depthKv kvs) (b1 ++ b2) := (l1.mono (PyData.depthAll_keys_le kvs)).append (l2.mono (PyData.depthAll_vals_le kvs))
    refine ⟨_ :: (b1 ++ b2), .cons rd (by simp only [PyData.depth]; omega) low, ?_⟩
    simp only [PyData.depth, PyData.shown, PyData.shownKv_eq]
    exact .dict g1 g2 g3 (sf a (List.mem_append_left _ List.mem_cons_self) _ _ _ g1 g3) (not_mem_of_deeper rd (by simp only [PyData.depth]; omega) low)
      (.of_two es.toList _ _ (k1.more_le (fun _ => List.mem_append_left _) (PyData.depthAll_keys_le kvs)) (k2.more_le (fun _ => List.mem_append_right _) (PyData.depthAll_vals_le kvs)))
  | _, _, _, .tuple (xs := xs) g1 g2 g3 g4, sf, o, z => by
    have z1 : (tupleText (PyData.shownAll xs)).length ≤ sizeLine := by simpa only [PyData.shown] using z
    obtain ⟨bs, le, ks⟩ := bigs_reads hn g4 sf (by simpa [bigOk] using o) fun t m => Nat.le_trans (tupleText_mem_le m) z1
    have rd := Reads.tuple g1 g2 g3 g4
    refine ⟨_ :: bs, .cons rd (by simp only [PyData.depth]; omega) le, ?_⟩
    simp only [PyData.depth, PyData.shown]
    exact ReprK.tuple g1 g2 g3 (not_mem_of_deeper rd (by simp only [PyData.depth]; omega) le) ks
  | _, _, _, .list (vs := vs) (xs := xs) g1 g2 g3 g4, sf, o, z => by
    have z1 : (listText (PyData.shownAll xs)).length ≤ sizeLine := by simpa only [PyData.shown] using z
    obtain ⟨bs, le, ks⟩ := bigs_reads hn g4 (sf.sub fun _ => List.mem_cons_of_mem _) (by simpa [bigOk] using o) fun t m => Nat.le_trans (listText_mem_le m) z1
    have rd := Reads.list g1 g2 g3 g4
    refine ⟨_ :: bs, .cons rd (by simp only [PyData.depth]; omega) le, ?_⟩
    simp only [PyData.depth, PyData.shown]
    have nm := not_mem_of_deeper rd (by simp only [PyData.depth]; omega) le
    rcases vs with ⟨_ | ⟨y, ys⟩⟩
    · cases (show ReadsAll h₀ [] xs _ from g4)
      simp only [PyData.shownAll, listText_nil]
      exact .listEmpty g1 g2 g3
    · exact .list g1 g2 g3 nm (by simpa using ks.length_eq) fun j y e => ks.item j y (by simpa using e)
theorem bigs_reads (hn : h₀.NoDigits) : ∀ {vs : List Value} {ds : List PyData} {as : List Addr}, ReadsAll h₀ vs ds as → SafeD h₀ as → bigAll ds = true → (∀ t ∈ PyData.shownAll ds, t.length ≤ sizeLine) →
    ∃ bs, ReadAtMost h₀ (PyData.depthAll ds) bs ∧ ReprAllK prog w bs h₀ (PyData.depthAll ds) vs (PyData.shownAll ds)
  | _, _, _, .nil, _, _, _ => ⟨[], nofun, by simp only [PyData.shownAll]; exact .nil⟩
  | _, _, _, .cons (d := d) (ds := ds) r rs, sf, o, z => by
    simp only [bigAll, Bool.and_eq_true] at o
    simp only [PyData.shownAll, List.mem_cons, forall_eq_or_imp] at z
    obtain ⟨b1, l1, k1⟩ := big_reads hn r (sf.sub fun _ => List.mem_append_left _) o.1 z.1
    obtain ⟨b2, l2, k2⟩ := bigs_reads hn rs (sf.sub fun _ => List.mem_append_right _) o.2 z.2
    simp only [PyData.depthAll, PyData.shownAll]
    exact ⟨b1 ++ b2, (l1.mono (Nat.le_max_left _ _)).append (l2.mono (Nat.le_max_right _ _)),
      .cons ((k1.more fun b => List.mem_append_left _).level_le (Nat.le_max_left _ _)) (k2.more_le (fun b => List.mem_append_right _) (Nat.le_max_right _ _))⟩
end
def isDct : PyData → Bool
  | .dict _ => true
  | _ => false
/-- repr of a tuple or a list -/
theorem repr_big {a : Addr} {d : PyData} {as : List Addr} {Q : Value → Shared → Prop} (hn : s.heap.NoDigits) (r : Reads s.heap (.ref a) d as) (sf : SafeD s.heap as) (nd : isDct d = false) (o : bigOk d = true) (z : d.shown.length ≤ sizeLine) (hg : A.guards = some []) (hu : A.units + (d.depth + 1) < cLine)
    (q : ∀ h' u tk, (∀ b o, s.heap.get? b = some o → h'.get? b = some o) → Q (.str d.shown u) { s with heap := h', toks := tk }) : wpAny (model prog w) A (call (.builtin "repr") [.ref a]) Q E s := by
  have hk0 : ∀ b o, s.heap.get? b = some o → s.heap.get? b = some o := fun _ _ e => e
  cases r with
  | tuple g1 g2 g3 g4 =>
    rename_i ob vs n xs
    have z1 : (tupleText (PyData.shownAll xs)).length ≤ sizeLine := by simpa only [PyData.shown] using z
    obtain ⟨bs, le, ks⟩ := bigs_reads (prog := prog) (w := w) hn g4 sf (by simpa [bigOk] using o) fun t m => Nat.le_trans (tupleText_mem_le m) z1
    have nm := not_mem_of_deeper (.tuple g1 g2 g3 g4) (by simp only [PyData.depth]; omega) le
    simp only [PyData.depth] at hu
    simp only [PyData.shown] at q
    exact call_repr_slot (by omega) ⟨ob, g1, g2⟩ F.slot_tuple_repr (call_tuple_reprK g1 g2 g3 nm ks hg (fun b _ => Clear.nil b) (by show A.units + 1 + _ < cLine; omega) hk0 (fun h' u tk k => ⟨_, _, rfl, q h' u tk k⟩) z1)
  | list g1 g2 g3 g4 =>
    rename_i ob vs n xs bs₀
    have z1 : (listText (PyData.shownAll xs)).length ≤ sizeLine := by simpa only [PyData.shown] using z
    obtain ⟨bs, le, ks⟩ := bigs_reads (prog := prog) (w := w) hn g4 (sf.sub fun _ => List.mem_cons_of_mem _) (by simpa [bigOk] using o) fun t m => Nat.le_trans (listText_mem_le m) z1
    have nm := not_mem_of_deeper (.list g1 g2 g3 g4) (by simp only [PyData.depth]; omega) le
    simp only [PyData.depth] at hu
    simp only [PyData.shown] at q
    refine call_repr_slot (by omega) ⟨ob, g1, g2⟩ F.slot_list_repr.toG ?_
    rcases vs with ⟨_ | ⟨y, ys⟩⟩
    · cases (show ReadsAll s.heap [] xs _ from g4)
      simp only [PyData.shownAll, listText_nil] at q
      exact call_list_repr_empty ⟨ob, g1, g2⟩ g1 g3 ⟨_, _, rfl, q s.heap _ _ fun _ _ e => e⟩
    · exact call_list_reprK g1 g2 g3 nm (by simpa using ks.length_eq) (fun j y e => ks.item j y (by simpa using e)) hg (fun b _ => Clear.nil b) (by show A.units + 1 + _ < cLine; omega) hk0 (fun h' u tk k => ⟨_, _, rfl, q h' u tk k⟩) z1
  | dict => cases nd
end
section
variable {B : Bs} {X : Cx}
/-! data with dicts in it, no object within, at most n deep -/
mutual
def rp : Nat → D → Bool
  | _, .non => true
  | _, .bl _ => true
  | _, .int _ => true
  | _, .str x => PyData.strOk x
  | 0, .tup _ => false
  | 0, .lst _ => false
  | 0, .dic _ => false
  | n + 1, .tup xs => rps n xs
  | n + 1, .lst xs => rps n xs
  | n + 1, .dic xs => rpk n xs
  | _, .obj _ _ => false
  | _, .opq _ => false
def rps : Nat → List D → Bool
  | _, [] => true
  | n, x :: xs => rp n x && rps n xs
def rpk : Nat → List (Key × D) → Bool
  | _, [] => true
  | n, (.inl _, x) :: xs => rp n x && rpk n xs
  | n, (.inr k, x) :: xs => PyData.strOk k && rp n x && rpk n xs
end
mutual
theorem rp_depth : ∀ (n : Nat) (d : D), rp n d = true → (toPy d).depth ≤ n
  | n, .non, _ => by simp [toPy, PyData.depth]
  | n, .bl b, _ => by simp [toPy, PyData.depth]
  | n, .int b, _ => by simp [toPy, PyData.depth]
  | n, .str x, h => by simp [toPy, PyData.depth]
  | 0, .tup xs, h => by simp [rp] at h
  | 0, .lst xs, h => by simp [rp] at h
  | 0, .dic xs, h => by simp [rp] at h
  | n + 1, .tup xs, h => by
    have h2 := rps_depth n xs (by simpa only [rp] using h)
    simp only [toPy, PyData.depth]
    omega
  | n + 1, .lst xs, h => by
    have h2 := rps_depth n xs (by simpa only [rp] using h)
    simp only [toPy, PyData.depth]
    omega
  | n + 1, .dic xs, h => by
    have h2 := rpk_depth n xs (by simpa only [rp] using h)
    simp only [toPy, PyData.depth]
    omega
  | n, .obj _ _, h => by simp [rp] at h
  | n, .opq _, h => by simp [rp] at h
theorem rps_depth : ∀ (n : Nat) (d : List D), rps n d = true → PyData.depthAll (toPys d) ≤ n
  | n, [], _ => by simp [toPys, PyData.depthAll]
  | n, x :: xs, h => by
    simp only [rps, Bool.and_eq_true] at h
    have h1 := rp_depth n x h.1
    have h2 := rps_depth n xs h.2
    simp only [toPys, PyData.depthAll]
    omega
theorem rpk_depth : ∀ (n : Nat) (d : List (Key × D)), rpk n d = true → PyData.depthKv (toPyK d) ≤ n
  | n, [], _ => by simp [toPyK, PyData.depthKv]
  | n, (.inl k, x) :: xs, h => by
    simp only [rpk, Bool.and_eq_true] at h
    have h1 := rp_depth n x h.1
    have h2 := rpk_depth n xs h.2
    simp only [toPyK, PyData.depthKv, PyData.depth]
    omega
  | n, (.inr k, x) :: xs, h => by
    simp only [rpk, Bool.and_eq_true] at h
    have h1 := rp_depth n x h.1.2
    have h2 := rpk_depth n xs h.2
    simp only [toPyK, PyData.depthKv, PyData.depth]
    omega
end
theorem safe_seq {h : Heap} {a : Addr} {o : Obj} {vs : Array Value} {n : Nat} {as : List Addr} (ho : h.get? a = some o) (hd : o.data = .seq vs n) (s : SafeD h as) : SafeD h (a :: as) := fun b m ob es k e1 e2 => by
  rcases List.mem_cons.mp m with z | z
  · subst z
    rw [ho] at e1
    cases e1
    rw [hd] at e2
    cases e2
  · exact s b z ob es k e1 e2
theorem safe_app {h : Heap} {as bs : List Addr} (s : SafeD h as) (s2 : SafeD h bs) : SafeD h (as ++ bs) := fun b m => (List.mem_append.mp m).elim (s b) (s2 b)
theorem safe_nil {h : Heap} : SafeD h [] := fun _ m => (nomatch m)
section
variable {pins : List (Addr × Obj)} {σ : L2.St} {H F : Hp} {s : Shared}
mutual
theorem rep_reads (I : Inv X pins σ H s) (e : Same F H) : ∀ (n : Nat) (d : D) (v : V) (u : Value), rp n d = true → Rep X.kn F v d → RelV v u → ∃ as, Reads s.heap u (toPy d) as ∧ SafeD s.heap as
  | _, .non, _, _, _, h, r => by cases h; cases r; exact ⟨_, by simp only [toPy]; exact .none, safe_nil⟩
  | _, .bl _, _, _, _, h, r => by cases h; cases r; exact ⟨_, by simp only [toPy]; exact .bool _, safe_nil⟩
  | _, .int _, _, _, _, h, r => by cases h; obtain ⟨t, rfl⟩ := r; exact ⟨_, by simp only [toPy]; exact .int _ _, safe_nil⟩
  | _, .str _, _, _, _, h, r => by cases h; obtain ⟨t, rfl⟩ := r; exact ⟨_, by simp only [toPy]; exact .str _ _, safe_nil⟩
  | 0, .tup _, _, _, p, _, _ => by simp [rp] at p
  | 0, .lst _, _, _, p, _, _ => by simp [rp] at p
  | 0, .dic _, _, _, p, _, _ => by simp [rp] at p
  | n + 1, .tup ds, _, _, p, h, r => by
    cases h with
    | tup h rs =>
      cases r
      obtain ⟨its, rv, ⟨o, ho, hc, m, hd⟩, _⟩ := I.tuple (same_t e h)
      obtain ⟨as, hr, sf⟩ := reps_reads I e n ds _ its (by simpa only [rp] using p) rs rv
      exact ⟨_, by simp only [toPy]; exact .tuple ho hc hd hr, sf⟩
  | n + 1, .lst ds, _, _, p, h, r => by
    cases h with
    | lst h rs =>
      cases r
      obtain ⟨its, rv, ⟨o, m, ho, hc, _, hd⟩, _⟩ := I.list (SqL.of (e _ _ h))
      obtain ⟨as, hr, sf⟩ := reps_reads I e n ds _ its (by simpa only [rp] using p) rs rv
      exact ⟨_, by simp only [toPy]; exact .list ho hc hd hr, safe_seq ho hd sf⟩
  | n + 1, .dic ds, _, _, p, h, r => by
    cases h with
    | dic h rs =>
      cases r
      obtain ⟨_, hS, vs, kv, o, es, ep, ho, hx, hd, _, hp, _⟩ := I.hok _ _ (e _ _ h)
      obtain ⟨as, bs, h1, h2, s1, s2⟩ := repk_reads I e n ds _ vs es.toList (by simpa only [rp] using p) rs kv hp
      refine ⟨_, by simp only [toPy]; exact .dict ho hx.1 hd h1 h2, safe_app (fun b m ob es' k e1 e2 => ?_) s2⟩
      rcases List.mem_cons.mp m with z | z
      · subst z
        exact hS
      · exact s1 b z ob es' k e1 e2
  | _, .obj _ _, _, _, p, _, _ => by simp [rp] at p
  | _, .opq _, _, _, p, _, _ => by simp [rp] at p
theorem reps_reads (I : Inv X pins σ H s) (e : Same F H) : ∀ (n : Nat) (ds : List D) (vs : List V) (us : List Value), rps n ds = true → Reps X.kn F vs ds → Vals vs us → ∃ as, ReadsAll s.heap us (toPys ds) as ∧ SafeD s.heap as
  | _, [], _, _, _, h, r => by cases h; cases r; exact ⟨_, by simp only [toPys]; exact .nil, safe_nil⟩
  | n, d :: ds, _, _, p, h, r => by
    simp only [rps, Bool.and_eq_true] at p
    cases h with
    | cons h1 h2 =>
      cases r with
      | cons r1 r2 =>
        obtain ⟨as, q1, s1⟩ := rep_reads I e n d _ _ p.1 h1 r1
        obtain ⟨bs, q2, s2⟩ := reps_reads I e n ds _ _ p.2 h2 r2
        exact ⟨_, by simp only [toPys]; exact .cons q1 q2, safe_app s1 s2⟩
theorem repk_reads (I : Inv X pins σ H s) (e : Same F H) : ∀ (n : Nat) (ds : List (Key × D)) (vs : List (Key × V)) (us : List (Key × Value)) (es : List DictEntry), rpk n ds = true → RepKs X.kn F vs ds → KV vs us → Pairs (mixKind X.prog X.w) es us →
    ∃ as bs, ReadsAll s.heap (es.map (·.key)) ((toPyK ds).map (·.1)) as ∧ ReadsAll s.heap (es.map (·.val)) ((toPyK ds).map (·.2)) bs ∧ SafeD s.heap as ∧ SafeD s.heap bs
  | _, [], _, _, _, _, h, r, p => by
    cases h
    cases r
    cases p
    exact ⟨_, _, by simp only [toPyK, List.map_nil]; exact .nil, by simp only [toPyK, List.map_nil]; exact .nil, safe_nil, safe_nil⟩
  | n, (.inl k, d) :: ds, _, _, _, q, h, r, p => by
    simp only [rpk, Bool.and_eq_true] at q
    cases h with
    | cons h1 h2 =>
      cases r with
      | @cons _ b _ _ r1 r2 =>
        obtain ⟨bk, bv⟩ := b
        obtain ⟨rfl, rv⟩ := r1
        cases p with
        | cons p1 p2 p3 =>
          obtain ⟨t, ek⟩ := Value.isInt_shape (show Value.isInt k _ = true from p1)
          obtain ⟨as, bs, a1, a2, s1, s2⟩ := repk_reads I e n ds _ _ _ q.2 h2 r2 p3
          obtain ⟨cs, c1, s3⟩ := rep_reads I e n d _ _ q.1 h1 rv
          simp only [toPyK, List.map_cons]
          rw [ek, p2]
          exact ⟨_, _, .cons (.int k t) a1, .cons c1 a2, safe_app safe_nil s1, safe_app s3 s2⟩
  | n, (.inr k, d) :: ds, _, _, _, q, h, r, p => by
    simp only [rpk, Bool.and_eq_true] at q
    cases h with
    | cons h1 h2 =>
      cases r with
      | @cons _ b _ _ r1 r2 =>
        obtain ⟨bk, bv⟩ := b
        obtain ⟨rfl, rv⟩ := r1
        cases p with
        | cons p1 p2 p3 =>
          obtain ⟨t, ek⟩ := Value.isStrOf_shape (show Value.isStrOf k _ = true from p1)
          obtain ⟨as, bs, a1, a2, s1, s2⟩ := repk_reads I e n ds _ _ _ q.2 h2 r2 p3
          obtain ⟨cs, c1, s3⟩ := rep_reads I e n d _ _ q.1.2 h1 rv
          simp only [toPyK, List.map_cons]
          rw [ek, p2]
          exact ⟨_, _, .cons (.str k t) a1, .cons c1 a2, safe_app safe_nil s1, safe_app s3 s2⟩
end
theorem repB_reads (I : Inv X pins σ H s) (e : Same F H) {d : D} {v : V} {u : Value} {W : WT} (p : rp 64 d = true) (h : RepB W X.kn F H v d) (r : RelV v u) (nd : isDct (toPy d) = false) : ∃ as, Reads s.heap u (toPy d) as ∧ SafeD s.heap as := by
  rcases h with h | ⟨a, ds, vs, rfl, rfl, _, h, rs⟩ | ⟨a, ds, vs, rfl, rfl, _, h, rs⟩
  · exact rep_reads I e 64 d v u p h r
  · cases r
    obtain ⟨its, rv, ⟨o, m, ho, hc, _, hd⟩, _⟩ := I.list (SqL.of h)
    obtain ⟨as, hr, sf⟩ := reps_reads I e 63 ds _ its (by simpa only [rp] using p) rs rv
    exact ⟨_, by simp only [toPy]; exact .list ho hc hd hr, safe_seq ho hd sf⟩
  · simp only [toPy, isDct] at nd
    cases nd
end
/-- the written part says that no limit of digits is set -/
structure Dig (K : PySem.W.Frag) : Prop where
  ok : PySem.W.nsOkIn K cStatics = true
  no : PySem.W.nsIn K cStatics "sys.int_max_str_digits" = some none
theorem Dig.at {K : PySem.W.Frag} {h : Heap} (d : Dig K) (X : K.In h) : h.NoDigits := ⟨h.nsMap cStatics, .of_isNs (PySem.W.isNs_of_in X d.ok), PySem.W.nsMap_none_of_in X d.ok d.no⟩
def reprB : List D → (D → Prop) → Prop
  | [x], Q => rp 64 x = true ∧ isDct (toPy x) = false ∧ bigOk (toPy x) = true ∧ (toPy x).shown.length ≤ sizeLine ∧ Q (.str (toPy x).shown)
  | _, _ => False
@[simp] theorem reprB_x (x : D) (Q : D → Prop) : reprB [x] Q = (rp 64 x = true ∧ isDct (toPy x) = false ∧ bigOk (toPy x) = true ∧ (toPy x).shown.length ≤ sizeLine ∧ Q (.str (toPy x).shown)) := rfl
theorem c_reprB (hd : Dig X.K) (hG : X.A.guards = some []) (hu : X.A.units + 65 < cLine) : CallR X (.builtin "repr") (LCa B X.kn reprB) := fun pins s σ H vs us Q I rx ⟨F, ds, Qd, e, dk, r, q, k⟩ => by
  unfold reprB at q
  split at q
  · rename_i x
    obtain ⟨v, rfl, r1⟩ := rb1 r
    obtain ⟨h1, hnd, h2, h3, h4⟩ := q
    obtain ⟨u, rfl, ru⟩ := vals1 rx
    have fin : Q (.str (toPy x).shown) H := k.here e dk h4 (.str _)
    have sh := rp_depth 64 x h1
    have nd := hd.at I.kIn
    have refs : ∀ a, v = .ref a → wpAny (model X.prog X.w) X.A (call (.builtin "repr") [u]) (EP X pins σ Q) X.xe s := fun a hv => by
      subst hv
      cases ru
      obtain ⟨as, rd, sf⟩ := repB_reads I e h1 r1 rfl hnd
      exact repr_big nd rd sf hnd h2 h3 hG (by omega) fun h' u tk hk => ⟨.str _, H, I.kept (t' := tk) hk, ⟨_, rfl⟩, fin⟩
    cases x with
    | non => cases r1.non; cases ru; exact PySem.P.repr_of_none ⟨.str _, H, I.tok _, ⟨_, rfl⟩, by simpa [toPy, PyData.shown] using fin⟩
    | bl b => cases r1.bl; cases ru; exact PySem.P.repr_of_bool ⟨.str _, H, I.tok _, ⟨_, rfl⟩, by simpa [toPy, PyData.shown] using fin⟩
    | int i =>
      cases r1.int
      obtain ⟨t, rfl⟩ := ru
      refine call_repr_slot (by omega) (typeIs_int s i t) PySem.F.slot_int_repr.toG (big_repr nd (by simp only [toPy, bigOk] at h2; exact of_decide_eq_true h2) ⟨_, _, rfl, .str _, H, I.tok _, ⟨_, rfl⟩, ?_⟩)
      simpa [toPy, PyData.shown] using fin
    | str i =>
      cases r1.str
      obtain ⟨t, rfl⟩ := ru
      exact PySem.P.repr_of_str ⟨.str _, H, I.tok _, ⟨_, rfl⟩, by simpa [toPy, PyData.shown] using fin⟩ (by simpa [toPy, PyData.shown] using h3)
    | tup xs => obtain ⟨a, us, hv, _⟩ := r1.tup e; exact refs a hv
    | lst xs => obtain ⟨a, us, hv, _⟩ := r1.lst e; exact refs a hv
    | dic _ => simp only [toPy, isDct] at hnd; cases hnd
    | obj _ _ => simp [rp] at h1
    | opq _ => simp [rp] at h1
  · exact q.elim
end
end ND

/-! ND19: int of a text of up to 4300 signs -/
namespace ND
open PySem PySem.Spec L2
open PyProof.Rows (envOfC)
section
open PySem.Calls PySem.NumText PySem.W.KIN PySem.W
theorem wp_max {M : Model} {A : Around} {E : Value → Shared → Prop} {s : Shared} {Q : Nat → Shared → Prop} (hn : s.heap.NoDigits) (h : Q 4300 s) : wpAny M A Builtin.intMaxStrDigits Q E s := by
  obtain ⟨mc, hns, hnone⟩ := hn
  unfold Builtin.intMaxStrDigits
  refine wpAny_bind (wpAny_nsGet hns ?_)
  rw [hnone]
  exact wpAny_pure h
theorem wp_text4 {M : Model} {A : Around} {E : Value → Shared → Prop} {s : Shared} {Q : Value → Shared → Prop} {v : Value} {text : List Nat} {n : Int} (hn : s.heap.NoDigits)
    (hs : ¬ (text.takeWhile (· != 0)).length ≤ 640) (hr : (int_private% "readNumeral") 4300 10 (text.takeWhile (· != 0)) = (int_private% "Numeral.value") n)
    (ha : ((text.takeWhile (· != 0)).length == text.length) = true) (h : Q (.int n s.toks) { s with toks := s.toks + 1 }) :
    wpAny M A ((int_private% "intFromText") v text 10) Q E s := by
  obtain ⟨hp, g, d, tk, os⟩ := s
  repeat (any_goals (first
    | assumption
    | (with_reducible refine wpAny_ite_false (decide_eq_false hs) ?_)
    | (with_reducible refine wpAny_ite_true (decide_eq_true ha) ?_)
    | (with_reducible refine wp_max hn ?_)
    | wp_step))
  all_goals (try rw [hr])
  all_goals (try dsimp only)
  repeat (any_goals (first
    | assumption
    | (with_reducible refine wpAny_ite_true (decide_eq_true ha) ?_)
    | wp_step))
theorem read4 {x : Str} {n : Int} (hx : x.length ≤ sizeLine) (hn : PySem.intText? x = some n) : (int_private% "readNumeral") 4300 10 (numSeenOf x) = (int_private% "Numeral.value") n ∧ ((numSeenOf x).length == (numTextOf x).length) = true := by
  rcases read4300 x hx with ⟨m, h1, h2, h3⟩ | ⟨h1, _⟩
  · cases hn.symm.trans h1
    exact ⟨h3, h2⟩
  · cases hn.symm.trans h1
def s4 (n : Int) : Spec := fun _ R s => s.heap.NoDigits ∧ R (.ok (.ret (.int n s.toks))) { s with toks := s.toks + 1 }
theorem meets4 {x : PySem.Str} {u : Tok} {n : Int} (hl : ¬ (numSeenOf x).length ≤ 640) (hx : x.length ≤ sizeLine) (hn : PySem.intText? x = some n) : Meets (Builtin.«int.__new__» ⟨[.type "int", .str x u], []⟩) (s4 n) := by
  rintro prog w A R s ⟨hd, h⟩
  refine wpAny_mono (Q := fun fin s' => ∃ v, fin = .done (.ret v) ∧ R (.ok (.ret v)) s') ?_ (fun fin s' h' => by obtain ⟨v, rfl, hv⟩ := h'; exact hv) fun _ _ e => e
  obtain ⟨hp, g, d, tk, os⟩ := s
  have f1 := PySem.F.conv_sub_int
  have f2 := PySem.F.madeHere_int
  have f3 := str_int
  have f4 := str_idx
  have f5 := str_trunc
  have f6 : typeOf (.str x u) = pure (.type "str") := rfl
  have hk := Hid.mk (And.intro hl (read4 hx hn))
  clear hl hn hx
  repeat (any_goals (first
    | assumption
    | ((with_reducible show wpAny _ _ ((int_private% "intFromText") _ _ _) _ _ _); refine wp_text4 hd hk.out.1 hk.out.2.1 hk.out.2.2 ?_)
    | wp_step))
  all_goals first | exact ⟨_, rfl, h⟩ | skip
theorem read1 {x : Str} {n : Int} (hs : (numSeenOf x).length ≤ 640) (hn : PySem.intText? x = some n) : (int_private% "readNumeral") 0 10 (numSeenOf x) = (int_private% "Numeral.value") n ∧ ((numSeenOf x).length == (numTextOf x).length) = true := by
  rcases read0 x hs with ⟨m, h1, h2, h3⟩ | ⟨h1, _⟩
  · cases hn.symm.trans h1
    exact ⟨h3, h2⟩
  · cases hn.symm.trans h1
theorem meets1 {x : PySem.Str} {u : Tok} {n : Int} (hl : (numSeenOf x).length ≤ 640) (hn : PySem.intText? x = some n) : Meets (Builtin.«int.__new__» ⟨[.type "int", .str x u], []⟩) (s4 n) := by
  rintro prog w A R s ⟨hd, h⟩
  refine wpAny_mono (Q := fun fin s' => ∃ v, fin = .done (.ret v) ∧ R (.ok (.ret v)) s') ?_ (fun fin s' h' => by obtain ⟨v, rfl, hv⟩ := h'; exact hv) fun _ _ e => e
  obtain ⟨hp, g, d, tk, os⟩ := s
  have f1 := PySem.F.conv_sub_int
  have f2 := PySem.F.madeHere_int
  have f3 := str_int
  have f4 := str_idx
  have f5 := str_trunc
  have f6 : typeOf (.str x u) = pure (.type "str") := rfl
  have hk := Hid.mk (And.intro hl (read1 hl hn))
  clear hl hn
  repeat (any_goals (first
    | assumption
    | ((with_reducible show wpAny _ _ ((int_private% "intFromText") _ _ _) _ _ _); refine wp_text hk.out.1 hk.out.2.1 hk.out.2.2 ?_)
    | wp_step))
  all_goals first | exact ⟨_, rfl, h⟩ | skip
theorem call_text4 {prog : Program} {w : World} {A : Around} {E : Value → Shared → Prop} {s : Shared} {Q : Value → Shared → Prop} {x : PySem.Str} {t : Tok} {n : Int} (hd : s.heap.NoDigits) (hx : x.length ≤ sizeLine) (hn : PySem.intText? x = some n)
    (h : Q (.int n s.toks) { s with toks := s.toks + 1 }) : wpAny (model prog w) A (call (.type "int") [.str x t]) Q E s := by
  by_cases hl : (numSeenOf x).length ≤ 640
  · exact call_int_1 (meets1 hl hn) ⟨hd, rfl, h⟩
  · exact call_int_1 (meets4 hl hx hn) ⟨hd, rfl, h⟩
end
section
variable {B : Bs} {X : Cx}
/-- int(..), of texts of any length that is allowed -/
def intB : List D → (D → Prop) → Prop
  | [.int i], Q => Q (.int i)
  | [.bl b], Q => Q (.int (if b = true then 1 else 0))
  | [.str x], Q => ∃ n, intText? x = some n ∧ x.length ≤ sizeLine ∧ Q (.int n)
  | _, _ => False
@[simp] theorem intB_i (i : Int) (Q : D → Prop) : intB [.int i] Q = Q (.int i) := rfl
@[simp] theorem intB_b (i : Bool) (Q : D → Prop) : intB [.bl i] Q = Q (.int (if i = true then 1 else 0)) := rfl
@[simp] theorem intB_s (x : Str) (Q : D → Prop) : intB [.str x] Q = ∃ n, intText? x = some n ∧ x.length ≤ sizeLine ∧ Q (.int n) := rfl
theorem c_intB (hd : Dig X.K) : CallR X (.type "int") (LCa B X.kn intB) := fun pins s σ H vs us Q I rx ⟨F, ds, Qd, e, dk, r, q, k⟩ => by
  unfold intB at q
  split at q
  · exact c_int pins s σ H vs us Q I rx ⟨F, _, Qd, e, dk, r, q, k⟩
  · exact c_int pins s σ H vs us Q I rx ⟨F, _, Qd, e, dk, r, q, k⟩
  · obtain ⟨v, rfl, r1⟩ := rb1 r
    obtain ⟨n, h1, h2, h3⟩ := q
    cases r1.str
    obtain ⟨u, rfl, t, rfl⟩ := vals1 rx
    exact call_text4 (hd.at I.kIn) h2 h1 ⟨.int n, H, I.tok _, ⟨_, rfl⟩, k.here e dk h3 (.int _)⟩
  · exact q.elim
end
end ND

/-! ND20: how long a repr is -/
namespace ND
open PySem PySem.Spec L2
mutual
/-- a bound of the length of the repr -/
def rsz : D → Nat
  | .non => 5
  | .bl _ => 5
  | .int _ => 4301
  | .str x => 10 * x.cps.size + 2
  | .tup xs => rszs xs + 3
  | .lst xs => rszs xs + 3
  | .dic xs => rszk xs + 3
  | _ => 5
def rszs : List D → Nat
  | [] => 0
  | x :: xs => rsz x + 2 + rszs xs
def rszk : List (Key × D) → Nat
  | [] => 0
  | (.inl _, x) :: xs => 4301 + rsz x + 4 + rszk xs
  | (.inr k, x) :: xs => 10 * k.cps.size + 2 + rsz x + 4 + rszk xs
end
theorem toPys_len : ∀ xs : List D, (PyData.shownAll (toPys xs)).length = xs.length
  | [] => by simp [toPys, PyData.shownAll]
  | x :: xs => by simp [toPys, PyData.shownAll, toPys_len xs]
theorem toPyK_len : ∀ xs : List (Key × D), (PyData.shownKv (toPyK xs)).length = xs.length
  | [] => by simp [toPyK, PyData.shownKv]
  | (.inl _, x) :: xs => by simp [toPyK, PyData.shownKv, toPyK_len xs]
  | (.inr _, x) :: xs => by simp [toPyK, PyData.shownKv, toPyK_len xs]
theorem str_rsz {x : Str} (h1 : PyData.strOk x = true) : (PyData.shown (.str x)).length ≤ 10 * x.cps.size + 2 := by
  have hx : ∀ c ∈ x.cps.toList, c < 16 ^ 8 := fun c hc => by
    unfold PyData.strOk at h1
    rw [← Array.all_toList, List.all_eq_true] at h1
    have := of_decide_eq_true (h1 c hc)
    omega
  simp only [PyData.shown]
  exact StrLaws.reprText_len x hx
theorem int_rsz {i : Int} (h : bigOk (.int i) = true) : (PyData.shown (.int i)).length ≤ 4301 := by
  simp only [bigOk, decide_eq_true_eq] at h
  have e := int_text_length_le10 (k := 4300) (by decide) h
  simp only [PyData.shown]
  rw [ofString_length]
  exact e
mutual
theorem shown_rsz : ∀ (n : Nat) (d : D), rp n d = true → bigOk (toPy d) = true → (toPy d).shown.length ≤ rsz d
  | _, .non, _, _ => by show (PyData.shown .none).length ≤ 5; decide
  | _, .bl b, _, _ => by cases b <;> decide
  | _, .int i, _, h => by
    simp only [toPy, rsz] at h ⊢
    exact int_rsz h
  | n, .str x, h, _ => by
    simp only [toPy, rsz]
    exact str_rsz (by cases n <;> simpa only [rp] using h)
  | 0, .tup xs, h, _ => by simp [rp] at h
  | 0, .lst xs, h, _ => by simp [rp] at h
  | 0, .dic xs, h, _ => by simp [rp] at h
  | n + 1, .tup xs, h, h' => by
    have e := shownAll_rsz n xs (by simpa only [rp] using h) (by simpa only [toPy, bigOk] using h')
    have e2 := tupleText_len_le (PyData.shownAll (toPys xs))
    rw [toPys_len] at e2
    simp only [toPy, PyData.shown, rsz]
    omega
  | n + 1, .lst xs, h, h' => by
    have e := shownAll_rsz n xs (by simpa only [rp] using h) (by simpa only [toPy, bigOk] using h')
    have e2 := listText_len_le (PyData.shownAll (toPys xs))
    rw [toPys_len] at e2
    simp only [toPy, PyData.shown, rsz]
    omega
  | n + 1, .dic xs, h, h' => by
    have e := shownKv_rsz n xs (by simpa only [rp] using h) (by simpa only [toPy, bigOk] using h')
    have e2 := dictText_len_le (PyData.shownKv (toPyK xs))
    rw [toPyK_len] at e2
    simp only [toPy, PyData.shown, rsz]
    omega
  | n, .obj _ _, h, _ => by simp [rp] at h
  | n, .opq _, h, _ => by simp [rp] at h
theorem shownAll_rsz : ∀ (n : Nat) (xs : List D), rps n xs = true → bigAll (toPys xs) = true → ((PyData.shownAll (toPys xs)).map (·.length)).sum + 2 * xs.length ≤ rszs xs
  | _, [], _, _ => by simp [toPys, PyData.shownAll, rszs]
  | n, x :: xs, h, h' => by
    simp only [rps, Bool.and_eq_true] at h
    simp only [toPys, bigAll, Bool.and_eq_true] at h'
    have e1 := shown_rsz n x h.1 h'.1
    have e2 := shownAll_rsz n xs h.2 h'.2
    simp only [toPys, PyData.shownAll, rszs, List.map_cons, List.sum_cons, List.length_cons]
    omega
theorem shownKv_rsz : ∀ (n : Nat) (xs : List (Key × D)), rpk n xs = true → bigKv (toPyK xs) = true → ((PyData.shownKv (toPyK xs)).map (·.length)).sum + 2 * xs.length ≤ rszk xs
  | _, [], _, _ => by simp [toPyK, PyData.shownKv, rszk]
  | n, (.inl k, x) :: xs, h, h' => by
    simp only [rpk, Bool.and_eq_true] at h
    simp only [toPyK, bigKv, Bool.and_eq_true] at h'
    have e0 := int_rsz h'.1.1
    have e1 := shown_rsz n x h.1 h'.1.2
    have e2 := shownKv_rsz n xs h.2 h'.2
    have e3 : ((PyData.shown (.int k)) ++ ": " ++ (toPy x).shown).length = (PyData.shown (.int k)).length + 2 + (toPy x).shown.length := by
      rw [strLen_append, strLen_append]; rfl
    simp only [toPyK, PyData.shownKv, rszk, List.map_cons, List.sum_cons, List.length_cons]
    omega
  | n, (.inr k, x) :: xs, h, h' => by
    simp only [rpk, Bool.and_eq_true] at h
    simp only [toPyK, bigKv, Bool.and_eq_true] at h'
    have e0 := str_rsz h.1.1
    have e1 := shown_rsz n x h.1.2 h'.1.2
    have e2 := shownKv_rsz n xs h.2 h'.2
    have e3 : ((PyData.shown (.str k)) ++ ": " ++ (toPy x).shown).length = (PyData.shown (.str k)).length + 2 + (toPy x).shown.length := by
      rw [strLen_append, strLen_append]; rfl
    simp only [toPyK, PyData.shownKv, rszk, List.map_cons, List.sum_cons, List.length_cons]
    omega
end
/-- what can be shown -/
def Rok (x : D) : Prop := rp 64 x = true ∧ isDct (toPy x) = false ∧ bigOk (toPy x) = true ∧ rsz x ≤ 16000000
theorem Rok.len {x : D} (h : Rok x) : (toPy x).shown.length ≤ sizeLine := Nat.le_trans (shown_rsz _ _ h.1 h.2.2.1) (Nat.le_trans h.2.2.2 (by decide))
theorem Rok.reprB {x : D} {Q : D → Prop} (h : Rok x) (q : Q (.str (toPy x).shown)) : reprB [x] Q := by
  rw [reprB_x]
  exact ⟨h.1, h.2.1, h.2.2.1, h.len, q⟩
/-- a for by what holds before each turn -/
theorem forG_inv {gt : GG} {g : GS} {E : Ed} (P : List D → List SV → Prop) (hend : ∀ σ, P [] σ → E.nx σ)
    (step : ∀ x xs σ, P (x :: xs) σ → ∀ E' : Ed, E'.rt = E.rt → E'.bk = E.nx → (∀ σ2, P xs σ2 → E'.nx σ2) → (∀ σ2, P xs σ2 → E'.ct σ2) → gt x σ fun σ' => g E' σ') : ∀ xs σ, P xs σ → forG gt g xs E σ
  | [], σ, h => hend σ h
  | x :: xs, σ, h => step x xs σ h _ rfl rfl (fun σ2 h2 => forG_inv P hend step xs σ2 h2) fun σ2 h2 => forG_inv P hend step xs σ2 h2
end ND

/-! ND21: x(lambda: ..), where x calls what it gets -/
namespace ND
open PySem PySem.Spec L2
open PyProof.Rows (envOfC)
/-- what running the lambda asks: of an error, of the answer -/
abbrev Act := (Er → Prop) → (D → Prop) → Prop
/-- what a def promises that gets a lambda -/
abbrev ASp := WD → Act → (D → Prop) → Prop
def svD : SV → SV
  | .d x => .d x
  | _ => .no
@[simp] theorem svD_d (x : D) : svD (.d x) = .d x := rfl
@[simp] theorem svD_no : svD .no = .no := rfl
@[simp] theorem svD_ol (xs : List D) : svD (.ol xs) = .no := rfl
/-- a state without what is one's own -/
@[simp] def noOwn (σ : List SV) : List SV := σ.map svD
theorem rel_noOwn {B : Bs} {K : Kn} {σ : List SV} {s : L2.St} {F H : Hp} (R : Rel B K σ s F H) : Rel ⟨B.W, F, H⟩ K (noOwn σ) s F H :=
  ⟨Grow.refl R.ex, R.deck, R.deck, by rw [noOwn, List.length_map]; exact R.len, fun _ => none, ⟨fun _ _ _ z => (nomatch z), fun _ _ z => (nomatch z)⟩, fun i x v e1 e2 => by
    rw [noOwn, List.getElem?_map] at e1
    cases h : σ[i]? with
    | none =>
      rw [h] at e1
      cases e1
    | some y =>
      rw [h] at e1
      cases e1
      cases y with
      | d z =>
        obtain ⟨u, h1, h2⟩ := R.dat h
        rw [h1] at e2
        cases e2
        exact h2
      | no => exact True.intro
      | ol xs => exact True.intro
      | od ks => exact True.intro
      | oo p n fs => exact True.intro⟩
theorem ext_notW {W : WT} {F H : Hp} {c : Addr} {φ : Heap → Prop} (dk : DeckIn W F H) (e : H c = some (.ext φ)) : ¬ InW W c := fun z => by
  rcases z with ⟨pp, ep, o⟩ | ⟨x, hx, rfl⟩
  · obtain ⟨ns, m, n, h1, h2, _⟩ := (dk.dk _ ep).st
    rcases o with o | o <;> subst o
    · rw [h1] at e
      cases e
    · rw [h2] at e
      cases e
  · obtain ⟨ps, h1, _⟩ := dk.tb x hx
    rw [h1] at e
    cases e
def ActOk (W : WT) (K : Kn) (F H : Hp) (tl : XK → Hp → VK → Prop) (act : Act) : Prop :=
  ∀ F' H' R Qd E Q, Grow W F H F' H' → DeckIn W F' H' → act R Qd → Fin ⟨W, F', H'⟩ K F' H' Qd Q → FinE W K F' H' R E → tl E H' Q
def TTg (K : Kn) (T : List (Addr × Str)) (sp : ASp) : (XK → Hp → VK → Prop) → Hp → VK → Prop := fun tl H Q =>
  ∃ (W : WD) (F : Hp) (act : Act) (Qd : D → Prop), Same F H ∧ DeckIn ⟨W, T⟩ F H ∧ sp W act Qd ∧ ActOk ⟨W, T⟩ K F H tl act ∧ Fin ⟨⟨W, T⟩, F, H⟩ K F H Qd Q
/-- the lambda at f is called: it stands in the first slot -/
def gAct (f : Addr) (act : Act) (R : Er → Prop) (σ : List SV) (Q : D → Prop) : Prop := σ[0]? = some (.d (.opq (.ref f))) ∧ act R Q
@[simp] theorem gAct_x (f g : Addr) (act : Act) (R : Er → Prop) (σ : List SV) (Q : D → Prop) : gAct f act R (.d (.opq (.ref g)) :: σ) Q = (g = f ∧ act R Q) := by
  simp [gAct]
theorem ed_act {Z : Cx} {W : WT} {F H : Hp} {f c' : Addr} {q a : Str} {tl : XK → Hp → VK → Prop} {act : Act} {E : XK} {R : Er → Prop} {p1 p2 : Pos} (hc : H c' = some (LamX.CodeO c' q)) (ok : ActOk W Z.kn F H tl act) (hE : FinE W Z.kn F H R E)
    (h : PE Z (.Call (.Name a p1) [] [] p2) (fun σZ HZ Q => σZ[0]? = some (some (.ref f)) ∧ HZ c' = some (LamX.CodeO c' q) ∧ tl E HZ Q)) : ED ⟨W, F, H⟩ Z (.Call (.Name a p1) [] [] p2) (gAct f act R) :=
  ⟨pe_imp h fun s H2 Q ⟨σ, F2, Qd, Rl, ⟨e0, q⟩, k⟩ => by
    obtain ⟨v, hv, rp⟩ := Rl.dat e0
    cases rp
    exact ⟨hv, Rl.base.hh c' _ hc (ext_notW Rl.bdk hc) (by intro _ z; cases z), ok F2 H2 R Qd E Q Rl.base Rl.deck q k (hE.more Rl.base)⟩⟩
section
variable {P : Program} {w : World} {K : PySem.W.Frag} {mg : Str → Option Value} {base : Heap} {T : List (Addr × Str)} {x a : Str} {st : Stmt} {f : Addr} {fd : FuncData} {N : List Str} {k : Nat} {sp : ASp} {g : WD → Addr → Act → GS}
abbrev cxL (P : Program) (w : World) (K : PySem.W.Frag) (mg : Str → Option Value) (base : Heap) (N : List Str) (x : Str) (st : Stmt) (f : Addr) (cdv : Value) (A : Around) (outer : List Env) (s : Shared) (H : Hp) : Cx :=
  cxOf C8.CX0 P w K mg base N x (defScope st) f cdv A outer s H C8.E0
/-- the def x, which calls its one parameter a, keeps sp -/
structure OkL (P : Program) (w : World) (K : PySem.W.Frag) (mg : Str → Option Value) (base : Heap) (T : List (Addr × Str)) (x : Str) (st : Stmt) (k : Nat) (N : List Str) (a : Str) (sp : ASp) : Prop where
  ex : ∃ (f : Addr) (oc kV doc pm cdv ct : Value) (an od : Option Addr) (osl : Array (Option Value)), mg x = some (.ref f) ∧ Fun K x x st f (PySem.W.fnOf x x (defArgs st) (defBody st) (defScope st) .none kV doc pm an cdv ct) ∧
    K.lookup f = some ⟨oc, od, .func (PySem.W.fnOf x x (defArgs st) (defBody st) (defScope st) .none kV doc pm an cdv ct), osl⟩ ∧ PySem.W.codeIn K cdv x = true ∧
    ∀ (A : Around) (outer : List Env) (q : Str) (f0 c' : Addr) (s : Shared) (H : Hp) (Q : VK) (tl : XK → Hp → VK → Prop), Room k (A.deeper (envOfC x (defScope st) s.heap.objs.size f cdv)) →
      (∀ (W : WX) (pn : List (Addr × Obj)) (xe : Value → Shared → Prop) (E : XK) (p1 p2 : Pos), Takes ((cxL P w K mg base N x st f cdv A outer s H).tr pn xe) W → (∀ cls d σ' H', E cls d H' → W cls d σ' H') →
        PE ((cxL P w K mg base N x st f cdv A outer s H).tr pn xe) (.Call (.Name a p1) [] [] p2) (fun σZ HZ Q => σZ[0]? = some (some (.ref f0)) ∧ HZ c' = some (LamX.CodeO c' q) ∧ tl E HZ Q)) →
      H c' = some (LamX.CodeO c' q) → TTg ⟨K, mg⟩ T sp tl H Q →
      ∃ t, PSs (cxL P w K mg base N x st f cdv A outer s H).nox (defBody st) t ∧ t { nx := fun _ H' => Q .non H', rt := Q } (L2.start N [.ref f0]) H
  sc : FnScope N [a] (defScope st)
theorem okL (hm : mg x = some (.ref f)) (F : Fun K x x st f fd) (S : FnScope N [a] (defScope st))
    (body : ∀ (cdv : Value) (A : Around) (outer : List Env) (s : Shared) (H : Hp) (W : WD) (F : Hp) (f0 : Addr) (act : Act), Room k (A.deeper (envOfC x (defScope st) s.heap.objs.size f cdv)) →
      (∀ (Wx : WX) (pn : List (Addr × Obj)) (xe : Value → Shared → Prop) (R : Er → Prop) (p1 p2 : Pos), Takes ((cxL P w K mg base N x st f cdv A outer s H).tr pn xe) Wx → FinE ⟨W, T⟩ ⟨K, mg⟩ F H R (fun c o H => ∀ s : L2.St, s.length = N.length → Wx c o s H) →
        ED ⟨⟨W, T⟩, F, H⟩ ((cxL P w K mg base N x st f cdv A outer s H).tr pn xe) (.Call (.Name a p1) [] [] p2) (gAct f0 act R)) →
      SDs ⟨⟨W, T⟩, F, H⟩ (cxL P w K mg base N x st f cdv A outer s H).nox (defBody st) (g W f0 act))
    (law : ∀ W act Q f0, sp W act Q → g W f0 act (endsD Q) (startD N.length [.opq (.ref f0)])) : OkL P w K mg base T x st k N a sp := by
  obtain ⟨oc, od, kV, doc, pm, an, cdv, ct, osl, rfl, lk, hcd⟩ := F.ex
  refine ⟨⟨f, oc, kV, doc, pm, cdv, ct, an, od, osl, hm, F, lk, hcd, fun A outer q f0 c' s H Q tl hr hact hc tt => ?_⟩, S⟩
  obtain ⟨W, F0, act, Qd, e, dk, hsp, ok, fin⟩ := tt
  have b := body cdv A outer s H W F0 f0 act hr fun Wx pn xe R p1 p2 tk hE =>
    ed_act (Z := (cxL P w K mg base N x st f cdv A outer s H).tr pn xe) hc ok hE (hact (fun c o σ H => σ.length = N.length → Wx c o σ H) pn xe (fun c o H => ∀ s : L2.St, s.length = N.length → Wx c o s H) p1 p2
      (fun u s' ⟨a, B, sI, pins, σ, H, cls, d, e, I, nb, up, sky, na, os, ag, w⟩ => tk u s' ⟨a, B, sI, pins, σ, H, cls, d, e, I, nb, up, sky, na, os, ag, w I.len⟩) fun cls d σ' H' h hl => h σ' hl)
  exact ⟨_, b.run, startD N.length [.opq (.ref f0)], F0, endsD Qd, rel_start e dk (.cons (.opq _) .nil), law W act Qd f0 hsp,
    ⟨fun σ s F' H' _ R' qn => fin .non qn F' H' .non R'.base R'.deck .non, fun d v F' H' g' dk' r' qd => fin d qd F' H' v g' dk' r', fun _ _ _ _ _ _ z => z.elim, fun _ _ _ _ _ _ z => z.elim⟩⟩
end
/-! ### the making of a lambda: what becomes of the heap -/
section
variable {X : Cx} {pins : List (Addr × Obj)} {σ : L2.St} {H : Hp} {s : Shared}
/-- nothing, or the table is longer and a code object is new -/
def LamH (H : Hp) (Pt : Addr) (q : Str) (H1 : Hp) : Prop := H1 = H ∨ ∃ (ps : Array Value) (c' : Addr), H c' = none ∧ (∃ qs, H Pt = some (.tbl qs)) ∧ H1 = upd (upd H Pt (.tbl ps)) c' (LamX.CodeO c' q)
theorem no_fr (I : Inv X pins σ H s) {f : Addr} (new : s.heap.objs.size ≤ f) : f ∉ frs X.stack := fun w => by
  rcases List.mem_cons.mp (I.stkSub _ w) with z | z
  · exact Nat.lt_irrefl _ (Nat.lt_of_lt_of_le (z ▸ I.lt) new)
  · exact I.nofs new z
theorem lam_new {T : List (Addr × Str)} {c Pt : Addr} {params : Arguments} {body : Expr} {scope : Scope} {pos : Pos} {E Q : Value → Shared → Prop} {q : Str} (hq : q = X.env.qual ++ "<lambda>") (I : Inv X pins σ H s) (TB : LamX.TabB X.base X.mg c Pt) (isC : X.env.code = .ref c)
    (inT : (Pt, q) ∈ T) (one : ∀ p ∈ T, p.1 = Pt → p.2 = q) (tabs : LamX.Tabs T H) (nod : defaultsOf params X.env = ([], [])) (caught : ∀ y ∈ scope.names, y.2 = .free → ∃ c, X.env.cells.lookup y.1 = some c)
    (go : ∀ (f c' : Addr) (pm ctv : Value) (H1 : Hp) (z : Shared), Inv X pins σ H1 z → LamH H Pt q H1 → LamX.Tabs T H1 → z.heap.get? f = some (PySem.W.kla_obj "<lambda>" q params body scope (cloFrom X.env.cells scope.names []) pm c' ctv) → H1 f = none → f ∉ frs X.stack →
      H1 c' = some (LamX.CodeO c' q) → Q (.ref f) z) : wpAny (model X.prog X.w) X.A (eval (.Lambda params body scope pos) X.env) Q E s := by
  obtain ⟨ps, atP, tri, known⟩ := tabs _ inT
  have objP : s.heap.get? Pt = some { cls := .none, data := .fields ps } := I.hok Pt _ atP
  have bltP := TB.bm.keeps I.bk
  refine PySem.W.kla_eval nod ?_
  cases found : codeAmong pos ps.toList with
  | some cv =>
    obtain ⟨c', rfl, isco⟩ := known pos cv found
    refine PySem.W.kla_makeFunctionHit (mg := X.mg) (c := c) (P := Pt) (ps := ps) (closure_ok caught) I.ok.glob (I.mod.glob.keeps I.bk) isC (TB.code.keeps I.bk) objP tri found bltP fun ctv hp tk keep le => ?_
    subst hq
    exact go hp.objs.size c' _ ctv H _ (I.kept (t' := tk) fun b o e => Heap.get?_push_of_some _ (keep b o e)) (.inl rfl) tabs (Heap.get?_push_size _ rfl) (I.hok.fresh le) (no_fr I le) isco
  | none =>
    refine PySem.W.kla_makeFunction (mg := X.mg) (c := c) (P := Pt) (ps := ps) (closure_ok caught) I.ok.glob (I.mod.glob.keeps I.bk) isC (TB.code.keeps I.bk) objP tri found TB.gP bltP fun c' ctv hp tk keep le lt rec tab => ?_
    obtain ⟨c2, oc, vs, t, z2, getc, dat, nam⟩ := rec
    cases z2
    subst hq
    have le2 : s.heap.objs.size ≤ hp.objs.size := Nat.le_of_lt (Nat.lt_of_le_of_lt le lt)
    have freeC : H c' = none := I.hok.fresh le
    have neP : Pt ≠ c' := ne_of_none atP freeC
    have J := LamX.inv_table (t' := tk) (q := X.env.qual ++ "<lambda>") (more := #[rawInt pos.line, rawInt pos.col, .ref c']) (h' := hp.push (PySem.W.kla_obj "<lambda>" (X.env.qual ++ "<lambda>") params body scope (cloFrom X.env.cells scope.names []) ((X.mg "__name__").getD .none) c' ctv)) I atP
      (fun b o z e => Heap.get?_push_of_some _ (keep b o z e)) (Heap.get?_push_of_some _ tab) le ⟨oc, vs, t, Heap.get?_push_of_some _ getc, dat, nam⟩
    have others : ∀ b o, H b = some o → b ≠ Pt → upd (upd H Pt (.tbl (ps ++ #[rawInt pos.line, rawInt pos.col, .ref c']))) c' (LamX.CodeO c' (X.env.qual ++ "<lambda>")) b = some o := fun b o e z => by
      rw [upd_ne (ne_of_none e freeC), upd_ne z]
      exact e
    have codes : ∀ b (q : Str), H b = some (LamX.CodeO b q) → upd (upd H Pt (.tbl (ps ++ #[rawInt pos.line, rawInt pos.col, .ref c']))) c' (LamX.CodeO c' (X.env.qual ++ "<lambda>")) b = some (LamX.CodeO b q) := fun b q e => others b _ e fun z => by
      rw [z, atP] at e
      cases e
    refine go hp.objs.size c' _ ctv _ _ J (.inr ⟨_, c', freeC, ⟨_, atP⟩, rfl⟩) (fun p hp' => ?_) (Heap.get?_push_size _ rfl) ?_ (no_fr I le2) upd_same
    · by_cases z : p.1 = Pt
      · rw [one p hp' z, z]
        have app : (ps ++ #[rawInt pos.line, rawInt pos.col, .ref c']).toList = ps.toList ++ [rawInt pos.line, rawInt pos.col, .ref c'] := by rw [Array.toList_append]
        refine ⟨_, (upd_ne neP).trans upd_same, app ▸ PySem.TriplesOk_snoc _ _ _ _ tri, fun p2 cv e => ?_⟩
        rw [app] at e
        rcases LamX.among_app _ tri e with e | e
        · obtain ⟨c0, z1, z2⟩ := known p2 cv e
          exact ⟨c0, z1, codes _ _ z2⟩
        · exact ⟨c', e, upd_same⟩
      · obtain ⟨qs, b1, b2, b3⟩ := tabs p hp'
        refine ⟨qs, others _ _ b1 z, b2, fun p2 cv e => ?_⟩
        obtain ⟨c0, z1, z2⟩ := b3 p2 cv e
        exact ⟨c0, z1, codes _ _ z2⟩
    · have ne1 : hp.objs.size ≠ c' := Nat.ne_of_gt lt
      have ne2 : hp.objs.size ≠ Pt := fun z => Nat.lt_irrefl _ (Nat.lt_of_lt_of_le (Heap.lt_size objP) (z ▸ le2))
      rw [upd_ne ne1, upd_ne ne2]
      exact I.hok.fresh le2
end
theorem lamH_grow {W : WT} {F H H1 : Hp} {Pt : Addr} {q : Str} (e : Same F H) (dk : DeckIn W F H) (inT : (Pt, q) ∈ W.T) (l : LamH H Pt q H1) (tabs : LamX.Tabs W.T H1) : Grow W F H F H1 ∧ DeckIn W F H1 := by
  rcases l with rfl | ⟨ps, c', nc, ⟨qs, atP⟩, rfl⟩
  · exact ⟨Grow.refl e, dk⟩
  have st : ∀ a o, H a = some o → NT o → upd (upd H Pt (.tbl ps)) c' (LamX.CodeO c' q) a = some o := fun a o z n => by
    rw [upd_ne (ne_of_none z nc), upd_ne]
    · exact z
    · intro z2
      rw [z2, atP] at z
      cases z
      exact n _ rfl
  refine ⟨⟨Same.refl F, fun a o z => st a o (e a o z) (dk.nf a o z), fun a o z _ n => st a o z n, fun _ z _ => z, fun a z => upd_keep (upd_keep z)⟩, ⟨fun p z => ?_, dk.tf, tabs, dk.nf, fun a qs z => ?_⟩⟩
  · have d := dk.dk p z
    obtain ⟨ns, m, n, h1, h2, r⟩ := d.st
    exact ⟨d.fd, d.fl, d.ne, ns, m, n, st _ _ h1 (by intro _ z; cases z), st _ _ h2 (by intro _ z; cases z), r⟩
  · by_cases h1 : a = c'
    · subst h1
      rw [upd_same] at z
      cases z
    · rw [upd_ne h1] at z
      by_cases h2 : a = Pt
      · exact ⟨_, inT, h2⟩
      · rw [upd_ne h2] at z
        exact dk.ot a qs z
@[simp] def gLam (sp : ASp) (W : WD) (fl : (Er → Prop) → GE) (σ : List SV) (Q : D → Prop) : Prop := sp W (fun R Qd => fl R (noOwn σ) Qd) Q
theorem noOwn2 (σ : List SV) : noOwn (noOwn σ) = noOwn σ := by
  simp only [noOwn, List.map_map]
  congr 1
  funext x
  cases x <;> rfl
section
variable {B : Bs} {X : Cx} {M : Str → Str → Option Bool}
def tlB (W : WT) (K : Kn) (fl : (Er → Prop) → GE) (E : XK) : TE := fun σ H Q => ∃ (F : Hp) (R : Er → Prop) (σd : List SV) (Qd : D → Prop), FinE W K F H R E ∧ Rel ⟨W, F, H⟩ K σd σ F H ∧ fl R σd Qd ∧ Fin ⟨W, F, H⟩ K F H Qd Q
theorem ed_lam {x a : Str} {st : Stmt} {N : List Str} {k : Nat} {sp : ASp} {c Pt : Addr} {params : Arguments} {body : Expr} {scope : Scope} {lpos p pos : Pos} {fl : (Er → Prop) → GE}
    (O : OkL X.prog X.w X.K X.mg X.base B.W.T x st (k + 1) N a sp) (b : BindsP x st [a]) (TB : LamX.TabB X.base X.mg c Pt) (isC : X.env.code = .ref c) (inT : (Pt, X.env.qual ++ "<lambda>") ∈ B.W.T) (one : ∀ p ∈ B.W.T, p.1 = Pt → p.2 = X.env.qual ++ "<lambda>") (hr : Room (k + 2) X.A)
    (L : LamX.LamS X.env.scope scope)
    (hb : ∀ (A : Around) (outer : List Env) (s : Shared) (H : Hp) (E : XK) (f c' : Addr) (F' H' : Hp) (R : Er → Prop), Room k (A.deeper (LamX.lamEnv X scope s.heap.objs.size f c')) → FinE B.W X.kn F' H' R E → Passes (L2.CX X.prog X.w) (LamX.lamCx X A outer s H E scope f c') E →
      ED ⟨B.W, F', H'⟩ (LamX.lamCx X A outer s H E scope f c') body (fl R))
    (hN : N[0]? = some a) (hva : Vis (defScope st) a) (hdef : defaultsOf params X.env = ([], []))
    (hbind : ∀ (q : Str) (cl : List (Str × Addr)) (pm cv ctv : Value), bindArgs (PySem.W.kla_fn "<lambda>" q params body scope cl pm cv ctv) ⟨[], []⟩ = pure [])
    (hg : Gl X x := by rfl) (hdb : (x == ("__debug__" : Str)) = false := by decide) (hd : (a == ("__debug__" : Str)) = false := by decide) (hcd : (a == ("__classdict__" : Str)) = false := by decide) :
    ED B X (.Call (.Name x p) [.Lambda params body scope lpos] [] pos) (gLam sp B.W.p fl) := by
  obtain ⟨f, oc, kV, doc, pm, cdv, ct, an, od, osl, hm, F, lk, hcode2, gives⟩ := O.ex
  refine ⟨⟨fun pins s σ H Q I ⟨σd, F0, Qd, Rl, q, kf⟩ => wpAny_Call_Name_kw (ld_glob I hg hm (PySem.W.callWith_K (h₀ := X.base) I.ok.mod.kin F.kp ?_ (by rfl) (by rfl)) hdb)⟩⟩
  show wpAny _ _ (spliced ((false, eval (.Lambda params body scope lpos) X.env) :: backTo pos (starEach [] X.env))) _ _ s
  refine Calls.spliced_cons (lam_new rfl I TB isC inT one Rl.deck.tb hdef (L.has I.ok) fun f0 c' pm' ctv H1 s' I1 lH T1 getf nf nfr isco => Calls.spliced_nil ⟨I1.kIn, ?_⟩)
  obtain ⟨g, d1⟩ := lamH_grow Rl.ex Rl.deck inT lH T1
  have rc : codeAny (model X.prog X.w) X.A (.call (.ref f) ⟨[.ref f0], []⟩) (CR C8.CX0 X.stack X.prog X.w H1 s' Q C8.E0) s' := by
    refine LamX.run_ofS (N := N) (ps := [a]) (us := [.ref f0]) (vs := [.ref f0]) lk hcode2 O.sc hr I1.env0 (F.binds b s' [.ref f0] I1.kIn rfl) (.cons rfl .nil) rfl fun hr' => ?_
    obtain ⟨t', ht', hq'⟩ := gives X.A X.stack (X.env.qual ++ "<lambda>") f0 c' s' H1 Q (fun E H' Q' => tlB B.W X.kn fl E σ H' Q') hr'
      (fun W pn xe E p1 p2 tk hW => LamX.pe_act (i := 0) (tb := tlB B.W X.kn fl E) I1 L getf nf nfr (hbind _ _ _ _ _) tk hW hr' (fun A outer s H hr2 => ⟨fun pins s2 σ H2 Q I ⟨F, R, σd, Qd, hE, Rl, q, kf⟩ =>
        (hb A outer s H E f0 c' F H2 R hr2 hE (passes_call (takes_of rfl rfl rfl rfl) fun _ _ _ _ z => z)).run.run pins s2 σ H2 Q I ⟨σd, F, Qd, Rl, q, kf⟩⟩) hN hva hd hcd) isco
      ⟨B.W.p, F0, fun R Qd => fl R (noOwn σd) Qd, Qd, g.fh, d1, q, fun F' H' R Qd' E Q' g' dk' qa fin hE => ⟨F', R, noOwn σd, Qd', hE, by
        have z := rel_noOwn (B := ⟨B.W, F0, H⟩) ((rel_noOwn Rl).grow (g.trans g') dk')
        rw [noOwn2] at z
        exact z, qa, fin⟩, kf.more g⟩
    exact ⟨t', ht'.nox, hq'⟩
  refine wpAny_call (codeAny_mono rc fun r s2 hq => ?_)
  rcases r with e | fl
  · exact (show False from hq).elim
  · cases fl <;> first | exact I1.after hq | exact False.elim hq
end
end ND

/-! ND22: try around what a lambda does; str of integers; t[::-1] of a tuple; a list of one's own made in a parallel assignment; the empty promise -/
namespace ND
open PySem PySem.Spec L2
open PyProof.Rows (envOfC)
section
variable {B : Bs} {X : Cx} {M : Str → Str → Option Bool}
/-- as sd_try; the body is told what takes its exceptions -/
theorem sd_tryL {body : List Stmt} {h₀ : ExceptHandler} {hs : List ExceptHandler} {l : List Cls3} {l' : List Hdl} {tb : (Er → Prop) → GS} {pos : Pos} {R : Er → Prop} {E : XK} (hst : X.stack = X.env :: X.outer) (hf : X.env.frame = some X.env.locals) (hN : X.N.Nodup)
    (tk : Takes X (fun c o _ H => E c o H)) (hE : FinE B.W X.kn B.F B.H R E) (hM : ClsTab X.kn M)
    (hb : ∀ (Wx : WX) (pn : List (Addr × Obj)) (xe : Value → Shared → Prop) (R' : Er → Prop), Takes (X.tr pn xe) Wx → FinE B.W X.kn B.F B.H R' (fun c o H => ∀ s : L2.St, s.length = X.N.length → Wx c o s H) → PassesOwn (model X.prog X.w) X.A X.env xe → SDs B (X.tr pn xe) body (tb R'))
    (hh : ClausesOk B X (h₀ :: hs) l l') : SD B X (.Try body (h₀ :: hs) [] [] pos) (gTry M X.N.length R tb l) :=
  ⟨ps_imp (ps_try_h (Wout := fun c o _ H => E c o H) (tb := fun W Dn s H => ∃ R', FinE B.W X.kn B.F B.H R' (fun c o H => ∀ s : L2.St, s.length = X.N.length → W c o s H) ∧ LS B X.kn (tb R') Dn s H) hst hf hN tk
      (fun W pn xe tk' po => ⟨fun pins s σ H Dn I ⟨R', fin, q⟩ => (hb W pn xe R' tk' fin po).run.run pins s σ H Dn I q⟩) hh.hdls)
    fun Dn s H ⟨σ, F, Ed, Rl, q, k⟩ => ⟨hdG M X.N.length R Ed.rt l, fun er w F' H' c o g dk rp s' hl =>
      hh.takes hM k g dk rp hl (fun ro => hE er ro F' H' c o g dk rp) w, σ, F, Ed, Rl, q, k⟩⟩
theorem nbSum : bootBuiltins "sum" = some (.builtin "sum") := by decide +kernel
theorem nbAll : bootBuiltins "all" = some (.builtin "all") := by decide +kernel
theorem nbAny : bootBuiltins "any" = some (.builtin "any") := by decide +kernel
theorem finE_none {W : WT} {K : Kn} {F H : Hp} {E : XK} : FinE W K F H (fun _ => False) E := fun _ q => q.elim
/-! str -/
def strI (ds : List D) (Q : D → Prop) : Prop := ∃ i, ds = [.int i] ∧ i.natAbs < 10 ^ 4300 ∧ Q (.str (toString i))
@[simp] theorem strI_i (i : Int) (Q : D → Prop) : strI [.int i] Q = (i.natAbs < 10 ^ 4300 ∧ Q (.str (toString i))) := by simp [strI]
theorem c_strB (hc : X.calm = true) (hd : Dig X.K) : CallR X (.type "str") (LCa B X.kn strI) := fun pins s σ H vs us Q I rx ⟨F, ds, Qd, e, dk, r, ⟨i, ei, h1, h2⟩, k⟩ => by
  subst ei
  obtain ⟨v, rfl, r1⟩ := rb1 r
  cases r1.int
  obtain ⟨u, rfl, t, rfl⟩ := vals1 rx
  exact PyProof.Rows.str_of_int_or (I.ok.hd hc) (hd.at I.kIn) (fun _ => ⟨.str _, H, I.tok _, ⟨_, rfl⟩, k.here e dk h2 (.str _)⟩) fun z => absurd h1 (Nat.not_lt.mpr z)
end
/-! ### t[::-1], t a tuple that is not empty -/
section
variable {prog : Program} {w : World} {A : Around} {E : Value → Shared → Prop} {s : Shared}
theorem back_fields {sl : Addr} {v : Value} {n : Nat} {Q : Int × Int × Nat → Shared → Prop} (hs : s.heap.IsSliceOf sl .none .none v) (pv : IsPart v (some (-1))) (done : Q (((n : Int) - 1), -1, n) s) :
    wpAny (model prog w) A (Builtin.Slice.sliceApplied (.ref sl) (pure (n : Int))) Q E s := by
  obtain ⟨ob, at_sl, _, dat⟩ := id hs
  have places : Builtin.Slice.slicePlaces ((n : Int) - 1) (-1) (-1) = n := by
    unfold Builtin.Slice.slicePlaces
    rw [if_neg (by decide)]
    have e1 : (-(-1 : Int)) = 1 := by decide
    rw [e1, Int.ediv_one]
    split <;> omega
  unfold Builtin.Slice.sliceApplied Builtin.Slice.sliceFields
  refine wpAny_bind (wpAny_bind (wpAny_field at_sl dat (x := .none) rfl (wpAny_bind (wpAny_field at_sl dat (x := .none) rfl (wpAny_bind (wpAny_field at_sl dat (x := v) rfl (wpAny_pure ?_)))))))
  refine wpAny_bind (HT.slicePart_ pv ?_)
  show wpAny _ _ (if ((-1 : Int) == 0) = true then _ else _) _ _ s
  rw [if_neg (by decide)]
  refine wpAny_bind (HT.slicePart_ .none (wpAny_bind (HT.slicePart_ .none (wpAny_bind (wpAny_pure ?_)))))
  show wpAny _ _ (pure (((n : Int) - 1), (-1 : Int), Builtin.Slice.slicePlaces ((n : Int) - 1) (-1) (-1))) _ _ s
  rw [places]
  exact wpAny_pure done
theorem back_pick (xs : Array Value) : ((List.range xs.size).filterMap fun (m : Nat) => xs[(((xs.size : Int) - 1) + (m : Int) * -1).toNat]?) = xs.toList.reverse := by
  apply List.ext_getElem?
  intro i
  have all : ∀ m ∈ List.range xs.size, (fun (m : Nat) => xs[(((xs.size : Int) - 1) + (m : Int) * -1).toNat]?) m = (fun m => some (xs.toList.reverse.getD m .none)) m := fun m hm => by
    have h := List.mem_range.mp hm
    have e : (((xs.size : Int) - 1) + (m : Int) * -1).toNat = xs.size - 1 - m := by omega
    have hl : m < xs.toList.reverse.length := by simpa using h
    show xs[_]? = some (xs.toList.reverse.getD m .none)
    rw [e, List.getD_eq_getElem?_getD, List.getElem?_eq_getElem hl, Option.getD_some, List.getElem_reverse]
    simp
  have e2 : ∀ (l : List Nat) (f g : Nat → Option Value), (∀ m ∈ l, f m = g m) → l.filterMap f = l.filterMap g := fun l f g h => by
    induction l with
    | nil => rfl
    | cons x l ih => rw [List.filterMap_cons, List.filterMap_cons, h x List.mem_cons_self, ih fun m hm => h m (List.mem_cons_of_mem _ hm)]
  rw [e2 _ _ _ all]
  have e3 : ((List.range xs.size).filterMap fun m => some (xs.toList.reverse.getD m .none)) = (List.range xs.size).map fun m => xs.toList.reverse.getD m .none := by
    induction List.range xs.size with
    | nil => rfl
    | cons x l ih => rw [List.filterMap_cons, ih, List.map_cons]
  rw [e3, List.getElem?_map]
  by_cases h : i < xs.size
  · have hl : i < xs.toList.reverse.length := by simpa using h
    rw [List.getElem?_range h, Option.map_some, List.getD_eq_getElem?_getD, List.getElem?_eq_getElem hl, Option.getD_some]
  · rw [List.getElem?_eq_none (by simpa using h), List.getElem?_eq_none (by simpa using h), Option.map_none]
theorem item_back {t sl : Addr} {items : Array Value} {v : Value} {Q : Value → Shared → Prop} (ht : PyProof.Rows.IsTup s.heap t items) (hs : s.heap.IsSliceOf sl .none .none v) (pv : IsPart v (some (-1))) (fits : items.size ≤ sizeLine)
    (done : Q (.ref s.heap.objs.size) { s with heap := s.heap.push { cls := .type "tuple", data := .seq items.toList.reverse.toArray } }) : wpAny (model prog w) A (getItem (.ref t) (.ref sl)) Q E s := by
  have okSize : sizeOk (.seq items.toList.reverse.toArray) := by
    show items.toList.reverse.toArray.size ≤ sizeLine
    rw [List.size_toArray, List.length_reverse, Array.length_toList]
    exact fits
  obtain ⟨ob, at_sl, cl, _⟩ := id hs
  have isSl : s.TypeIs (.ref sl) "slice" := ⟨ob, at_sl, cl⟩
  unfold getItem
  try with_reducible refine wpAny_holding ?_
  first | refine wpAny_bind (wpAny_pure ?_) | skip
  refine wpAny_bind (wpAny_sequenceKey ht.typeIs (by decide) (wpAny_bind (wpAny_callSpecial?_slot (name := Str.ofString "__getitem__") ht.typeIs PyProof.Rows.slot_tuple_getitem (wpAny_call_entry PyProof.Rows.slot_tuple_getitem ht.typeIs PyProof.Rows.entry_tuple_getitem ?_ (PyProof.Rows.args_tuple_getitem _ _)))))
  show wpAny _ _ (Builtin.Tuple.tupleItemsOf (.ref t) >>= _) _ _ s
  refine wpAny_bind (PyProof.Rows.tupleItemsOf_ ht (wpAny_bind (wpAny_typeOf isSl ?_)))
  rw [if_pos (by decide)]
  refine wpAny_bind (back_fields hs pv ?_)
  show wpAny _ _ (if (((items.size : Int) - 1) == 0 && (-1 : Int) == 1 && items.size == items.size) = true then _ else _) _ _ s
  rw [if_neg (by simp), back_pick]
  first
    | exact wpAny_bind (m := Builtin.Tuple.tupleExact _) (wpAny_newObj_type (wpAny_pure ⟨_, rfl, wpAny_pure done⟩) okSize)
    | exact wpAny_bind (m := Builtin.Tuple.tupleExact _) (wpAny_newObj_type (wpAny_bind (wpAny_pure (wpAny_pure ⟨_, rfl, wpAny_pure done⟩))) okSize)
    | exact wpAny_bind (wpAny_bind (m := Builtin.Tuple.tupleExact _) (wpAny_newObj_type (wpAny_pure (wpAny_pure ⟨_, rfl, wpAny_pure done⟩)) okSize))
    | exact wpAny_bind (wpAny_bind (m := Builtin.Tuple.tupleExact _) (wpAny_newObj_type (wpAny_pure ⟨_, rfl, wpAny_pure done⟩) okSize))
end
end ND

/-! ND23: [::-1] of lists and tuples; dict displays; x, y = [..], e; the promise of nothing; the end of a law with tables -/
namespace ND
open PySem PySem.Spec L2
open PyProof.Rows
section
variable {B : Bs} {X : Cx} {e a b : Expr} {fa fb : GE} {pos : Pos}
/-! ### e[::-1] -/
def tRev2 (K : PySem.W.Frag) (te : TE) : TE := fun σ H Q => te σ H fun x H1 => ∃ a xs, x = .ref a ∧ ((SqL K H1 a xs ∧ ∀ p, H1 p = none → Q (.ref p) (upd H1 p (.lst xs.reverse))) ∨ (SqT K H1 a xs ∧ ∀ p, H1 p = none → Q (.ref p) (upd H1 p (.tup xs.reverse))))
theorem pe_rev2 {te : TE} {k : Nat} {p1 p2 p3 : Pos} (he : PE X e te) : PE X (.Subscript e (.Slice none none (some (.UnaryOp .USub (.Constant (.int 1) k p1) p2)) p3) pos) (tRev2 X.K te) := by
  refine ⟨fun pins s σ H Q I h => Subscript_ (thn (he.run pins s σ H _ I h) fun v s1 ⟨x, H1, I1, r1, a, xs, ex, q⟩ => ?_)⟩
  subst ex
  cases r1
  have minus : PO X (some (.UnaryOp .USub (.Constant (.int 1) k p1) p2)) (tPart (tUn (rU fun i => .int (-i)) (tC (.int 1)))) := po_some (pe_un un_neg pe_int)
  refine wpAny_Slice (thn (po_none.run pins s1 σ H1 (fun o G => o = none ∧ G = H1) I1 ⟨rfl, rfl⟩) fun vl s2 ⟨l, G2, I2, pl, el, e2⟩ => ?_)
  subst el e2
  refine thn (po_none.run pins s2 σ G2 (fun o G => o = none ∧ G = G2) I2 ⟨rfl, rfl⟩) fun vu s3 ⟨u, G3, I3, pu, eu, e3⟩ => ?_
  subst eu e3
  refine thn (minus.run pins s3 σ G3 (fun o G => o = some (-1) ∧ G = G3) I3 ⟨1, rfl, -1, rfl, rfl, rfl⟩) fun vs s4 ⟨o, G4, I4, ps, eo, e4⟩ => ?_
  subst eo e4
  have J : Inv X pins σ G4 { s4 with heap := s4.heap.push { cls := .type "slice", data := .fields #[vl, vu, vs] } } := I4.kept (t' := s4.toks) fun _ _ z => Heap.get?_push_of_some _ z
  show wpAny (model X.prog X.w) X.A (subscriptTail e (.Slice none none (some (.UnaryOp .USub (.Constant (.int 1) k p1) p2)) p3) (.ref a) (.ref s4.heap.objs.size)) (EP X pins σ Q) X.xe { s4 with heap := s4.heap.push { cls := .type "slice", data := .fields #[vl, vu, vs] } }
  rcases q with ⟨hx, q⟩ | ⟨hx, q⟩
  · obtain ⟨its, r, isL, fits⟩ := J.list hx
    have len := r.length
    refine tail_any (ops := [.ref a, .ref s4.heap.objs.size]) isL.isList.typeIs (PySem.slot_list_getitem.lookup) ?_ (by with_unfolding_all rfl)
    refine wpAny_getItem_list_slice isL.isList (Heap.IsSliceOf.new _ vl vu vs) pl pu ps (by decide) ?_ (by rw [List.size_toArray]; omega)
    rw [PySem.W.krv_pick]
    refine ⟨.ref _, _, J.laid (t' := s4.toks) (o := .lst xs.reverse) (fun _ _ z => Heap.get?_push_of_some _ z) (Nat.le_refl _) ⟨?_, _, 0, r.reverse, Heap.get?_push_size _ rfl⟩, rfl, q _ (J.hok.fresh (Nat.le_refl _))⟩
    rw [List.length_reverse]
    exact fits
  · obtain ⟨its, r, isT, fits⟩ := J.tuple hx
    have len := r.length
    cases pl
    cases pu
    refine tail_any (ops := [.ref a, .ref s4.heap.objs.size]) isT.typeIs (PyProof.Rows.slot_tuple_getitem.lookup) ?_ (by with_unfolding_all rfl)
    refine item_back isT (Heap.IsSliceOf.new _ .none .none vs) ps (by rw [List.size_toArray]; omega) ?_
    refine ⟨.ref _, _, J.laid (t' := s4.toks) (o := .tup xs.reverse) (fun _ _ z => Heap.get?_push_of_some _ z) (Nat.le_refl _) ⟨?_, _, r.reverse, ?_⟩, rfl, q _ (J.hok.fresh (Nat.le_refl _))⟩
    · rw [List.length_reverse]
      exact fits
    · exact IsTup.new _ _
def revD : D → (D → Prop) → Prop
  | .lst xs, Q => Q (.lst xs.reverse)
  | .tup xs, Q => Q (.tup xs.reverse)
  | _, _ => False
@[simp] theorem revD_l (xs : List D) (Q : D → Prop) : revD (.lst xs) Q = Q (.lst xs.reverse) := rfl
@[simp] theorem revD_t (xs : List D) (Q : D → Prop) : revD (.tup xs) Q = Q (.tup xs.reverse) := rfl
theorem ed_rev {k : Nat} {p1 p2 p3 : Pos} (ha : BD B X a fa) : ED B X (.Subscript a (.Slice none none (some (.UnaryOp .USub (.Constant (.int 1) k p1) p2)) p3) pos) (gUn revD fa) :=
  ⟨pe_imp (pe_rev2 ha.run) fun s H Q ⟨σ, F, Qd, R, q, kf⟩ => ⟨σ, F, _, R, q, fun x qx F1 H1 v g1 d1 r1 => by
    unfold revD at qx
    split at qx
    · obtain ⟨c, us, rfl, st, rs⟩ := r1.lst g1.fh
      exact ⟨c, us, rfl, .inl ⟨SqL.of st, fun p hp => (kf.more g1).frz g1.fh d1 qx hp (.lst upd_same (rs.reverse.mono (same_new (g1.fh.free hp))))⟩⟩
    · obtain ⟨c, us, rfl, _, st, rs⟩ := r1.tup g1.fh
      exact ⟨c, us, rfl, .inr ⟨st, fun p hp => (kf.more g1).frz g1.fh d1 qx hp (.tup (SqT.of upd_same) (rs.reverse.mono (same_new (g1.fh.free hp))))⟩⟩
    · exact qx.elim⟩⟩
/-! ### {} and {k: e}, k written -/
theorem ed_dic0 : ED B X (.Dict [] [] pos) (gC (.dic [])) :=
  ⟨pe_imp pe_dnewK fun s H Q ⟨σ, F, Qd, R, q, kf⟩ => fun d hd => kf.frz R.ex R.deck q hd (.dic upd_same .nil)⟩
@[simp] def gDic1 (k : Key) (fa : GE) (σ : List SV) (Q : D → Prop) : Prop := fa σ fun x => Q (.dic [(k, x)])
theorem ed_dic1 {kx vx : Expr} {k : Key} (hk : PE X kx (tC (kV k))) (ha : ED B X vx fa) : ED B X (.Dict [some kx] [vx] pos) (gDic1 k fa) :=
  ⟨pe_imp (pe_disp (pps_cons hk ha.run pps_nil) rfl rfl (by simp) (by simp)) fun s H Q ⟨σ, F, Qd, R, q, kf⟩ => fun p hp => by
    have R1 := R.grow (Grow.laid (o := .dK []) R.ex hp) (R.deck.laid hp)
    refine ⟨σ, F, _, R1, q, fun x qx F2 H2 v g2 d2 r2 => ?_⟩
    have fp : F p = none := R.ex.free hp
    have nw : ¬ InW B.W p := fun w => (R.deck.w w).2 hp
    have e2 : H2 p = some (.dK []) := g2.hh p _ upd_same nw (by intro _ z; cases z)
    have g := (Grow.laid (W := B.W) (o := .dK []) R.ex hp).trans g2
    have f2 : F2 p = none := g2.new p fp (by rw [upd_same]; exact Option.some_ne_none _)
    have em : mergeK [] [(k, v)] = [(k, v)] := by simp [mergeK, putK]
    refine ⟨e2, [(k, v)], rfl, by simp, ?_⟩
    rw [em]
    have gw := g.write (o := .dK [(k, v)]) hp f2
    have dw := R.deck.write (o := .dK [(k, v)]) d2 hp fun φ z => by rw [e2] at z; cases z
    exact kf _ qx _ _ _ (gw.freeze hp f2 upd_same) (R.deck.freeze dw hp) (.dic upd_same (.cons (r2.mono (same_new f2)) .nil))⟩
/-! ### x, y = [..], e -/
@[simp] def gParL (i j : Nat) (fs : GA) (fb : GE) (E : Ed) (σ : List SV) : Prop := fs σ fun ds => fb σ fun y => E.nx ((σ.set i (.ol ds)).set j (.d y))
theorem sd_parL {i j : Nat} {x y : Str} {px py pt : Pos} {kt k2 pt2} {fs : GA} (hc : X.calm = true) (hN : X.N.Nodup) (hi : X.N[i]? = some x) (hj : X.N[j]? = some y) (hij : i ≠ j)
    (hx : X.env.scope.names.lookup x = some .local) (hy : X.env.scope.names.lookup y = some .local) (ha : FD B X a fs) (hb : ED B X b fb)
    (hw : swappedStores [.Tuple [.Name x px, .Name y py] kt pt] (.Tuple [a, b] k2 pt2) X.env = pure (some [x, y]))
    (hs : swapsWithSole [.Tuple [.Name x px, .Name y py] kt pt] (.Tuple [a, b] k2 pt2) pos.line X.env = pure false := by rfl)
    (h1 : starEach [a, b] X.env = (false, eval a X.env) :: starEach [b] X.env := by rfl) (h2 : starEach [b] X.env = (false, eval b X.env) :: starEach [] X.env := by rfl) :
    SD B X (.Assign [.Tuple [.Name x px, .Name y py] kt pt] (.Tuple [a, b] k2 pt2) pos) (gParL i j fs fb) :=
  ⟨ps_imp (ps_par hc hN hi hj hij hx hy (pa_cons ha.run (pa_cons hb.run pa_nil h2) h1) hw hs) fun Dn s H ⟨σ, F, E, R, q, k⟩ => ⟨σ, F, _, R, q, fun ds qd F1 H1 p vs g1 d1 hp fp ep rs => by
    refine ⟨σ, F1, _, R.grow g1 d1, qd, fun y qy F2 H2 v g2 d2 r2 => ?_⟩
    have nw : ¬ InW B.W p := fun w => (R.deck.w w).2 hp
    have e2 : H2 p = some (.lst vs) := g2.hh p _ ep nw (by intro _ z; cases z)
    have f2 : F2 p = none := g2.new p fp (by rw [ep]; exact Option.some_ne_none _)
    have R2 := R.setNew (i := i) (x := .ol ds) (g1.trans g2) d2 hp f2 ⟨rfl, vs, e2, rs.mono g2.ff⟩
    exact ⟨_, _, rfl, k.nx _ _ F2 H2 (g1.trans g2).ff (R2.set r2) qy⟩⟩⟩
end
/-! ### the promise of nothing -/
section
variable {P : Program} {w : World} {K : PySem.W.Frag} {mg : Str → Option Value} {base : Heap} {T : List (Addr × Str)} {x : Str} {st : Stmt} {f : Addr} {fd : FuncData} {k : Nat} {ps : List Str}
theorem okNone (hm : mg x = some (.ref f)) (F : Fun K x x st f fd) : OkD P w K mg base T x st k ps (fun _ _ _ _ => False) :=
  ⟨⟨f, fd, hm, F, ⟨fun vs H Q E ⟨_, _, _, _, _, _, _, _, z, _⟩ => z.elim, fun A outer s H args us vs Q E _ _ _ _ ⟨_, _, _, _, _, _, _, _, z, _⟩ => z.elim⟩⟩⟩
end
end ND

/-! ND24: the end of a law whose defs make lambdas -/
namespace ND
open PySem PySem.Spec L2 PyProof.Rows
open PyProof.Rows (envOfC)
/-- the script and the tables are tracked -/
def tabH (K : PySem.W.Frag) (a : Addr) (o : Obj) (ns : List Int) (ts : List Addr) : Hp := fun b => if b ∈ ts then some (.tbl #[]) else scH K a o ns b
section
variable {K : PySem.W.Frag} {a b : Addr} {o : Obj} {ns : List Int} {ts : List Addr} {u : HO}
theorem tabH_in (h : b ∈ ts) : tabH K a o ns ts b = some (.tbl #[]) := if_pos h
theorem tabH_out (h : b ∉ ts) : tabH K a o ns ts b = scH K a o ns b := if_neg h
theorem tabH_some (h : tabH K a o ns ts b = some u) : (b ∈ ts ∧ u = .tbl #[]) ∨ (b ∉ ts ∧ b = a ∧ K.lookup a = none ∧ u = .frz o (.lst (ns.map V.int))) := by
  by_cases z : b ∈ ts
  · rw [tabH_in z] at h
    cases h
    exact .inl ⟨z, rfl⟩
  · rw [tabH_out z] at h
    exact .inr ⟨z, scH_some h⟩
end
theorem run_lawT {P : Program} {w : World} {K : PySem.W.Frag} {mg mb : Str → Option Value} {k : Nat} {fa a : Addr} {fd : FuncData} {x : Str} {sp : Sp} {t : Shared} {vs : List Value} {ns : List Int} {cs : List (Addr × Addr)}
    (KX : K.In t.heap) (nsM : t.heap.Ns mainGlobals mg) (nsB : t.heap.Ns builtinsNs mb) (bb : ∀ y : Str, y ≠ "__name__" → mb y = bootBuiltins y) (lim : t.heap.NoLimit) (gens : t.gens = #[])
    (tabs : ∀ p ∈ cs, t.heap.get? p.2 = some { cls := .none, data := .fields #[] }) (notK : ∀ p ∈ cs, K.lookup p.2 = none) (codes : ∀ p ∈ cs, PySem.W.CodeHd t.heap p.1 p.2)
    (blt : ∃ (bm : Addr) (ob : Obj), mg "__builtins__" = some (.ref bm) ∧ bm ≠ builtinsNs ∧ t.heap.get? bm = some ob ∧ ob.cls = .type "module" ∧ ob.dict = some builtinsNs ∧ ob.data = .plain)
    (ha : t.heap.get? a = some { cls := .type "list", data := .seq vs.toArray }) (hi : IntsAre vs ns) (hl : ns.length ≤ sizeLine) (room : Room k callerA)
    (G : ∀ base : Heap, K.In base → base.Ns mainGlobals mg → (∀ p ∈ cs, LamX.TabB base mg p.1 p.2) → FnG P w K mg base k fa fd [x] sp) (bind : ∀ (s : Shared) (u : Value), BindsTo s fd ⟨[u], []⟩ [(x, u)])
    (ask : ∀ H : Hp, SqL K H a (ns.map V.int) → (∀ p ∈ cs, H p.2 = some (.tbl #[])) → (∀ b ps, H b = some (.tbl ps) → ∃ p ∈ cs, b = p.2) → sp [.ref a] H (fun v _ => v = .bl true) fun _ _ _ => False) :
    codeAny (model P w) callerA (.call (.ref fa) ⟨[.ref a], []⟩) (fun r s' => r = .ok (.ret (.bool true)) ∧ OldK t.heap s'.heap ∧ s'.os = t.os ∧ AllBare s'.gens) t := by
  have vals := vals_ints hi
  have sameLen := hi.length
  have memT : ∀ p ∈ cs, p.2 ∈ cs.map (·.2) := fun p hp => List.mem_map.mpr ⟨p, hp, rfl⟩
  have isT : ∀ b ∈ cs.map (·.2), t.heap.get? b = some { cls := .none, data := .fields #[] } := fun b hb => by
    obtain ⟨p, hp, rfl⟩ := List.mem_map.mp hb
    exact tabs p hp
  have aT : a ∉ cs.map (·.2) := fun z => by
    have q := isT a z
    rw [ha] at q
    cases congrArg Obj.data (Option.some.inj q)
  generalize hH : tabH K a { cls := .type "list", data := .seq vs.toArray } ns (cs.map (·.2)) = H
  have inH : ∀ {b : Addr} {u : HO}, H b = some u → (b ∈ cs.map (·.2) ∧ u = .tbl #[]) ∨ (b ∉ cs.map (·.2) ∧ b = a ∧ K.lookup a = none ∧ u = .frz { cls := .type "list", data := .seq vs.toArray } (.lst (ns.map V.int))) := fun e => by
    rw [← hH] at e
    exact tabH_some e
  have atT : ∀ p ∈ cs, H p.2 = some (.tbl #[]) := fun p hp => by
    rw [← hH]
    exact tabH_in (memT p hp)
  have seqA : SqL K H a (ns.map V.int) := by
    cases ek : K.lookup a with
    | none =>
      refine .inl (.inr ⟨{ cls := .type "list", data := .seq vs.toArray }, ?_⟩)
      rw [← hH, tabH_out aT]
      unfold scH
      rw [if_pos ⟨rfl, ek⟩]
    | some o =>
      have same := KX a o ek
      rw [ha] at same
      cases same
      exact .inr ⟨_, vs.toArray, _, ek, rfl, rfl, rfl, by rw [List.size_toArray, sameLen]; exact hl, by simpa using vals⟩
  have okH : HOk P w H t.heap := fun b u e => by
    rcases inH e with ⟨z, rfl⟩ | ⟨_, rfl, _, rfl⟩
    · exact isT b z
    · exact ⟨ha, by rw [List.length_map]; exact hl, vs, _, vals, ha⟩
  -- what is no list, no table, is not tracked
  have plain : ∀ {b : Addr} {o : Obj}, t.heap.get? b = some o → (∀ xs n, o.data ≠ .seq xs n) → o.data ≠ .fields #[] → H b = none := fun {b o} e n1 n2 => by
    cases q : H b with
    | none => rfl
    | some u =>
      rcases inH q with ⟨z, _⟩ | ⟨_, rfl, _, _⟩
      · rw [isT b z] at e
        cases e
        exact absurd rfl n2
      · rw [ha] at e
        cases e
        exact absurd rfl (n1 _ _)
  have stays : ∀ {b : Addr} {o : Obj}, t.heap.get? b = some o → H b = none → (hidT t.heap H).get? b = some o := fun e n => hidT_get e n
  have nsStays : ∀ {b : Addr} {m : Str → Option Value}, t.heap.Ns b m → (hidT t.heap H).Ns b m := fun {b m} ⟨o, es, ep, e, dt, r⟩ =>
    ⟨o, es, ep, stays e (plain e (fun xs n z => by rw [dt] at z; cases z) fun z => by rw [dt] at z; cases z), dt, r⟩
  have kIn : K.In (hidT t.heap H) := fun b o e => stays (KX b o e) (by
    cases q : H b with
    | none => rfl
    | some u =>
      rcases inH q with ⟨z, _⟩ | ⟨_, rfl, n, _⟩
      · obtain ⟨p, hp, rfl⟩ := List.mem_map.mp z
        rw [notK p hp] at e
        cases e
      · rw [n] at e
        cases e)
  obtain ⟨mc, l1, l2⟩ := lim
  have tb : ∀ p ∈ cs, LamX.TabB (hidT t.heap H) mg p.1 p.2 := fun p hp => by
    have tp := tabs p hp
    have notG : mainGlobals ≠ p.2 := fun z => by
      obtain ⟨o, es, ep, e, dt, _⟩ := nsM
      rw [z, tp] at e
      cases e
      cases dt
    refine ⟨?_, ?_, notG⟩
    · obtain ⟨o, us, f1, f2, f3, f4, f5, f6, f7, g1, g2, g3, rest⟩ := codes p hp
      exact ⟨o, us, f1, f2, f3, f4, f5, f6, f7, stays g1 (plain g1 (fun xs n z => by rw [g3] at z; cases z) fun z => by
        rw [g3] at z
        cases z
        have := rest.1
        simp at this), g2, g3, rest⟩
    · obtain ⟨bm, ob, b1, b2, b3, b4, b5, b6⟩ := blt
      refine ⟨bm, ob, b1, b2, fun z => ?_, fun z => ?_, stays b3 (plain b3 (fun xs n z => by rw [b6] at z; cases z) fun z => by rw [b6] at z; cases z), b4, b5, b6⟩
      · obtain ⟨o, es, ep, e, dt, _⟩ := nsM
        rw [z, e] at b3
        cases b3
        rw [dt] at b6
        cases b6
      · rw [z, tp] at b3
        cases b3
        cases b6
  have env : Env0 P w K mg (hidT t.heap H) callerA [] t H := ⟨rfl, ⟨kIn, nsStays nsM, ⟨mb, nsStays nsB, bb⟩, mc, nsStays l1, l2⟩, fun b o e => of_hidT e, Nat.le_of_eq (hidT_size _ _), trivial, fun b hb => (nomatch hb), okH, .of_eq gens⟩
  have run := (G _ kIn (nsStays nsM) tb).run callerA [] t H ⟨[.ref a], []⟩ [.ref a] [.ref a] _ _ rfl room env (bind t (.ref a)) (.cons rfl .nil) (ask H seqA atT fun b ps e => by
    rcases inH e with ⟨z, _⟩ | ⟨_, _, _, z⟩
    · obtain ⟨p, hp, rfl⟩ := List.mem_map.mp z
      exact ⟨p, hp, rfl⟩
    · cases z)
  refine codeAny_mono run fun r s' h => ?_
  rcases r with e | fl
  · obtain ⟨_, _, _, _, _, _, _, _, _, _, _, _, no⟩ := (show L2.CX P w [] H t (fun _ _ _ => False) e s' from h)
    exact no.elim
  · cases fl with
    | ret u =>
      obtain ⟨v, H', os, bare, un, hok', r', q⟩ := h
      have q' : v = .bl true := q
      subst q'
      obtain rfl : u = Value.bool true := r'
      have grown : ∀ p ∈ cs, ∃ more : Array Value, s'.heap.get? p.2 = some { cls := .none, data := .fields more } := fun p hp => by
        obtain ⟨more, z⟩ := un.tbls p.2 #[] (atT p hp)
        exact ⟨_, hok' p.2 _ z⟩
      have same : ∀ b o, b ∉ cs.map (·.2) → t.heap.get? b = some o → s'.heap.get? b = some o := fun b o nb e => by
        cases q : H b with
        | none => exact un.keep b o e q (fun z => (nomatch z)) (by simp)
        | some u =>
          rcases inH q with ⟨z, _⟩ | ⟨_, rfl, _, rfl⟩
          · exact absurd z nb
          · obtain ⟨g1, _⟩ := hok' b _ (un.frzs b _ _ q)
            rw [ha] at e
            cases e
            exact g1
      refine ⟨rfl, ⟨fun b o e => ?_, fun b o e => ?_⟩, os, bare⟩
      · by_cases hb : b ∈ cs.map (·.2)
        · obtain ⟨p, hp, rfl⟩ := List.mem_map.mp hb
          obtain ⟨more, hm⟩ := grown p hp
          rw [tabs p hp] at e
          cases e
          exact .inr (.inl ⟨((codes p hp).tab (tabs p hp)).isCodeTable, rfl, #[], more, rfl, by rw [Array.empty_append]; exact hm⟩)
        · exact .inl (same b o hb e)
      · by_cases hb : b ∈ cs.map (·.2)
        · obtain ⟨p, hp, rfl⟩ := List.mem_map.mp hb
          obtain ⟨more, hm⟩ := grown p hp
          exact ⟨_, hm⟩
        · exact ⟨o, same b o hb e⟩
    | next => exact False.elim h
    | brk => exact False.elim h
    | cont => exact False.elim h
theorem walkGT {l : PySem.W.OpenLaw} {k : Nat} {q : Program} {loose : List Str} {XP : (Str → Option Value) → Heap → Prop} {YP : World → Heap → Prop} {d : DefRec} {K : Params → PySem.W.Frag} {x : Str}
    (hn : l.most = some 63) (hdf : d.params.defaults = []) (hr : Room k callerA) (hY : ∀ (w : World) (h : Heap), YP w h → (K w.params).In h)
    (G : ∀ (w : World) (mg mb : Str → Option Value) (fa : Addr) (h : Heap), YP w h → (K w.params).In h → h.Ns mainGlobals mg → mg d.name = some (.ref fa) →
      (∀ (d : DefRec) (x : Str) (c Pt : Addr), (recsOf q).find? (fun e => e.name == x) = some d → PySem.W.tabIn (K w.params) x = some (c, Pt) → PySem.W.CodeHd h c Pt ∧ h.get? Pt = some { cls := .none, data := .fields #[] }) →
      ∃ (fd : FuncData) (T : List (Addr × Addr × Str)), (∀ p ∈ T, h.get? p.2.1 = some { cls := .none, data := .fields #[] } ∧ (K w.params).lookup p.2.1 = none ∧ PySem.W.CodeHd h p.1 p.2.1) ∧ (∀ (s : Shared) (u : Value), BindsTo s fd ⟨[u], []⟩ [(x, u)]) ∧
        ∀ base : Heap, (K w.params).In base → base.Ns mainGlobals mg → (∀ p ∈ T, LamX.TabB base mg p.1 p.2.1) → FnG l.prog w (K w.params) mg base k fa fd [x] (spLaw (K w.params) (T.map fun p => (p.2.1, p.2.2)))) :
    PySem.W.WalkO q loose XP YP l.row.toRowW d [] (fun f vs => PySem.call f vs) := by
  refine Att.attach_callB hn hdf fun w s₀ t mg mb fa o pm cd doc a vs ns Gd Y ho hd hcd hmg hobj hints hlen hbits hg => ?_
  have inK := hY w _ Y
  obtain ⟨fd, T, hT, bind, run⟩ := G w mg mb fa _ Y inK Gd.T.g hmg fun d x c Pt h1 h2 => PySem.W.tab_of Gd.T inK h1 h2
  have up : ∀ p ∈ T.map (fun p => (p.1, p.2.1)), ∃ z ∈ T, p = (z.1, z.2.1) := fun p hp => by
    obtain ⟨z, hz, e⟩ := List.mem_map.mp hp
    exact ⟨z, hz, e.symm⟩
  refine run_lawT (cs := T.map fun p => (p.1, p.2.1)) inK Gd.T.g Gd.T.b Gd.T.builtins Gd.T.nolimit hg (fun p hp => ?_) (fun p hp => ?_) (fun p hp => ?_) Gd.T.bmain hobj hints (Nat.le_trans hlen (by decide)) hr (fun base b1 b2 b3 => run base b1 b2 fun p hp => b3 (p.1, p.2.1) (List.mem_map.mpr ⟨p, hp, rfl⟩)) bind
    fun H hS hA hO => ⟨a, ns, rfl, hS, hlen, fun z hz => ?_, fun b ps e => ?_, fun _ => rfl⟩
  · obtain ⟨z, hz, rfl⟩ := up p hp
    exact (hT z hz).1
  · obtain ⟨z, hz, rfl⟩ := up p hp
    exact (hT z hz).2.1
  · obtain ⟨z, hz, rfl⟩ := up p hp
    exact (hT z hz).2.2
  · obtain ⟨p, hp, rfl⟩ := List.mem_map.mp hz
    exact hA (p.1, p.2.1) (List.mem_map.mpr ⟨p, hp, rfl⟩)
  · obtain ⟨p, hp, rfl⟩ := hO b ps e
    obtain ⟨z, hz, rfl⟩ := up p hp
    exact ⟨(z.2.1, z.2.2), List.mem_map.mpr ⟨z, hz, rfl⟩, rfl⟩
end ND

/-! ND25: defs that make lambdas (their code object is known); small rules for the plain laws -/
namespace ND
open PySem PySem.Spec L2
open PyProof.Rows (envOfC)
/-- the def st stands at f, its code object is cdv -/
structure FunC (K : PySem.W.Frag) (x : Str) (st : Stmt) (f : Addr) (cdv : Value) : Prop where
  ex : ∃ (oc kV doc pm ct : Value) (od an : Option Addr) (osl : Array (Option Value)), K.lookup f = some ⟨oc, od, .func (PySem.W.fnOf x x (defArgs st) (defBody st) (defScope st) .none kV doc pm an cdv ct), osl⟩ ∧ PySem.W.codeIn K cdv x = true
  kp : PySem.W.keepIn K (.ref f) = true
section
variable {P : Program} {w : World} {K : PySem.W.Frag} {mg : Str → Option Value} {base : Heap} {x : Str} {st : Stmt} {f : Addr} {N ps : List Str} {k : Nat} {sp : DSp} {g : WD → (Er → Prop) → GS} {T : List (Addr × Str)} {cdv : Value}
theorem okGc (hm : mg x = some (.ref f)) (F : FunC K x st f cdv) (S : FnScope N ps (defScope st)) (hlen : ∀ W ds Q R, sp W ds Q R → ds.length = ps.length)
    (body : ∀ (A : Around) (outer : List Env) (s : Shared) (H : Hp) (E : XK) (W : WD) (F : Hp) (R : Er → Prop), (A.deeper (envOfC x (defScope st) s.heap.objs.size f cdv)).guards = some [] → Room k (A.deeper (envOfC x (defScope st) s.heap.objs.size f cdv)) → FinE ⟨W, T⟩ ⟨K, mg⟩ F H R E →
      PassesOwn (model P w) (cxD P w K mg base N x st f cdv A outer s H E).A (cxD P w K mg base N x st f cdv A outer s H E).env (cxD P w K mg base N x st f cdv A outer s H E).xe →
      Passes (L2.CX P w) (cxD P w K mg base N x st f cdv A outer s H E) E → SDs ⟨⟨W, T⟩, F, H⟩ (cxD P w K mg base N x st f cdv A outer s H E) (defBody st) (g W R))
    (law : ∀ W ds Q R, sp W ds Q R → g W R (endsD Q) (startD N.length ds)) : OkG P w K mg base T x st (k + 1) ps sp := by
  obtain ⟨oc, kV, doc, pm, ct, od, an, osl, lk, hcd⟩ := F.ex
  refine ⟨⟨f, _, hm, fun_mk lk hcd F.kp, fn_ofG lk hcd S (fun vs H Q E ⟨W, F, ds, Qd, Rd, h1, h2, h3, h4, _⟩ => h3.length.trans (hlen _ _ _ _ h4)) fun A outer s H vs Q E hG hr ⟨W, F, ds, Qd, Rd, h1, h2, h3, h4, h5, h6⟩ => ?_⟩⟩
  exact body_run (body A outer s H E W F Rd hG hr h6 (passes_of rfl) (passes_call (takes_of rfl rfl rfl rfl) fun _ _ _ _ z => z)) h1 h2 h3 (law W ds Qd Rd h4) h5
end
section
variable {B : Bs} {X : Cx} {e : Expr} {pos : Pos}
theorem sd_appE {k : Nat} {x : Str} {px apos cpos : Pos} {fe : GE} (hv : PE X (.Name x px) (tVar k)) (ha : ED B X e fe) (hbase : attributeBase (.Name x px) "append" X.env (eval (.Name x px) X.env) = eval (.Name x px) X.env := by rfl)
    (hfew : ((backTo cpos (starEach [e] X.env)).all (fun x => !x.1) && (backToKw cpos (keywordEach [] X.env)).all (fun x => x.1.isSome) && decide ([e].length + ([] : List Keyword).length + (if ([] : List Keyword).isEmpty then 0 else 1) < 30)) = true := by rfl)
    (hline : (apos.endLine == cpos.line) = true := by rfl) (hs1 : starEach [e] X.env = (false, eval e X.env) :: starEach [] X.env := by rfl) (hplain : (backTo cpos (starEach [] X.env)).any (·.1) = false := by rfl)
    (hs : swapsWith (.Call (.Attribute (.Name x px) "append" apos) [e] [] cpos) none pos.line X.env = pure false := by rfl) : SD B X (.Expr (.Call (.Attribute (.Name x px) "append" apos) [e] [] cpos) pos) (gApp k fe) :=
  sd_app (pe_bm PySem.F.plainAttrs_list PySem.F.slot_list_append PySem.F.type_list_append mt_append hv (pa_cons ha.run pa_nil hs1) hbase hfew hline hs1 hplain) hs
end
end ND

/-! ND26: plain facts that many laws need: sizes, draws, digits, data that can be shown -/
namespace ND
open PySem PySem.Spec L2
abbrev dkD (d : Addr) : D := .opq (.ref d)
def Sz (n : Nat) (i : Int) : Prop := i.natAbs < 2 ^ n
instance (n : Nat) (i : Int) : Decidable (Sz n i) := inferInstanceAs (Decidable (_ < _))
theorem Sz.mono {n m : Nat} {i : Int} (h : Sz n i) (e : n ≤ m) : Sz m i := Nat.lt_of_lt_of_le h (Nat.pow_le_pow_right (by decide) e)
theorem Sz.mul {n m : Nat} {i j : Int} (h : Sz n i) (h' : Sz m j) : Sz (n + m) (i * j) := by
  show (i * j).natAbs < 2 ^ (n + m)
  rw [Int.natAbs_mul, Nat.pow_add]
  exact Nat.mul_lt_mul'' h h'
theorem Sz.add {n : Nat} {i j : Int} (h : Sz n i) (h' : Sz n j) : Sz (n + 1) (i + j) := by
  have h1 : i.natAbs < 2 ^ n := h
  have h2 : j.natAbs < 2 ^ n := h'
  show (i + j).natAbs < 2 ^ (n + 1)
  rw [Nat.pow_succ]
  omega
theorem Sz.neg {n : Nat} {i : Int} (h : Sz n i) : Sz n (-i) := by
  show (-i).natAbs < 2 ^ n
  rw [Int.natAbs_neg]
  exact h
theorem Sz.sub {n : Nat} {i j : Int} (h : Sz n i) (h' : Sz n j) : Sz (n + 1) (i - j) := by
  rw [Int.sub_eq_add_neg]
  exact h.add h'.neg
theorem Sz.log {n : Nat} {i : Int} (h : Sz n i) : i.natAbs.log2 ≤ n := by
  by_cases e : i.natAbs = 0
  · rw [e]
    simp
  · exact Nat.le_of_lt ((Nat.log2_lt e).mpr h)
theorem Sz.ok {n m : Nat} {i j : Int} (h : Sz n i) (h' : Sz m j) (e : n + m < 1000000) : MulOk i j := by
  have := h.log
  have := h'.log
  show i.natAbs.log2 + j.natAbs.log2 < 1000000
  omega
theorem dr {d l : Addr} {k : Int} {Q : D → Prop} {R : Er → Prop} (h1 : 0 < k) (h2 : k < 2 ^ 62) (q : ∀ r, 0 ≤ r → r < k → Q (.int r)) : spDraw (some (d, l)) [dkD d, .int k] Q R := ⟨d, l, k, rfl, rfl, h1, h2, q⟩
theorem e62 : (2 : Int) ^ 62 = 4611686018427387904 := by decide
theorem Sz.small {i : Int} (h1 : -1000 ≤ i) (h2 : i ≤ 1000) : Sz 20 i := by
  show i.natAbs < 2 ^ 20
  omega
theorem sz_nat {n : Nat} (h : n ≤ 1000) : Sz 20 (n : Int) := Sz.small (by omega) (by omega)
theorem cat_nines (acc : Array Nat) : ∀ m : Nat, ((List.replicate m (Str.ofString "9").cps).foldl (· ++ ·) acc).toList = acc.toList ++ List.replicate m 57
  | 0 => by simp
  | m + 1 => by
    rw [List.replicate_succ, List.foldl_cons, cat_nines (acc ++ (Str.ofString "9").cps) m]
    have e : (Str.ofString "9").cps.toList = [57] := by decide +kernel
    rw [Array.toList_append, e, List.replicate_succ, List.append_assoc]
    rfl
theorem digits_lt : ∀ (cs : List Nat) (a : Nat), NumText.AllDigits cs → cs.foldl (fun acc c => acc * 10 + (c - 48)) a < (a + 1) * 10 ^ cs.length
  | [], a, _ => by simp
  | c :: cs, a, h => by
    have hc := h.head
    have ih := digits_lt cs (a * 10 + (c - 48)) h.tail
    rw [List.foldl_cons, List.length_cons]
    refine Nat.lt_of_lt_of_le ih ?_
    rw [Nat.pow_succ, Nat.mul_comm (10 ^ cs.length) 10, ← Nat.mul_assoc]
    exact Nat.mul_le_mul_right _ (by omega)
theorem nine_list {k : Nat} (hk : 1 ≤ k) : (Txt.mul (Str.ofString "9") (k : Int)).cps.toList = List.replicate k 57 := by
  unfold Txt.mul
  rw [if_neg (by omega)]
  split
  · rename_i h
    have e0 : (Str.ofString "9").length = 1 := by decide +kernel
    rw [e0] at h
    simp at h
    have : k = 1 := by omega
    subst this
    decide +kernel
  · rw [Int.toNat_natCast]
    show ((List.replicate k (Str.ofString "9").cps).foldl (· ++ ·) #[]).toList = _
    rw [cat_nines]
    simp
theorem nine_text {k : Nat} (hk : 1 ≤ k) (h : k ≤ 1020) : ∃ i : Int, intText? (Txt.mul (Str.ofString "9") (k : Int)) = some i ∧ (Txt.mul (Str.ofString "9") (k : Int)).length ≤ sizeLine ∧ 0 ≤ i ∧ i < 10 ^ k := by
  have e := nine_list hk
  have hl : (Txt.mul (Str.ofString "9") (k : Int)).length = k := by
    show (Txt.mul (Str.ofString "9") (k : Int)).cps.size = k
    rw [← Array.length_toList, e, List.length_replicate]
  have hd : NumText.AllDigits (Txt.mul (Str.ofString "9") (k : Int)).cps.toList := by
    rw [e]
    intro c hc
    rw [List.eq_of_mem_replicate hc]
    omega
  have hne : (Txt.mul (Str.ofString "9") (k : Int)).cps.toList ≠ [] := by
    rw [e]
    intro z
    have := congrArg List.length z
    simp at this
    omega
  have ht := intText_digits hd hne (by rw [hl]; omega)
  refine ⟨_, ht, by rw [hl]; exact Nat.le_trans h (by decide), Int.natCast_nonneg _, ?_⟩
  have hv := digits_lt _ 0 hd
  have el : (Txt.mul (Str.ofString "9") (k : Int)).cps.toList.length = k := by rw [e, List.length_replicate]
  rw [el, Nat.zero_add, Nat.one_mul] at hv
  have h2 : ((10 : Int) ^ k) = (((10 : Nat) ^ k : Nat) : Int) := by simp
  rw [h2]
  exact Int.ofNat_lt.mpr hv
theorem ten_sz {k : Nat} {i : Int} (h0 : 0 ≤ i) (h : i < 10 ^ (6 * k)) : Sz (20 * k) i := by
  have e : (10 : Nat) ^ (6 * k) ≤ 2 ^ (20 * k) := by
    rw [Nat.pow_mul, Nat.pow_mul]
    exact Nat.pow_le_pow_left (by decide) k
  show i.natAbs < 2 ^ (20 * k)
  have h2 : ((10 : Int) ^ (6 * k)) = (((10 : Nat) ^ (6 * k) : Nat) : Int) := by simp
  rw [h2] at h
  omega

theorem rps_all (n : Nat) : ∀ xs : List D, rps n xs = xs.all (rp n)
  | [] => by simp [rps]
  | x :: xs => by simp [rps, rps_all n xs]
mutual
theorem rp_mono : ∀ (n m : Nat) (d : D), n ≤ m → rp n d = true → rp m d = true
  | n, m, .non, _, _ => by cases m <;> simp [rp]
  | n, m, .bl b, _, _ => by cases m <;> simp [rp]
  | n, m, .int b, _, _ => by cases m <;> simp [rp]
  | n, m, .str x, _, h => by cases n <;> cases m <;> simpa [rp] using h
  | 0, m, .tup xs, _, h => by simp [rp] at h
  | 0, m, .lst xs, _, h => by simp [rp] at h
  | 0, m, .dic xs, _, h => by simp [rp] at h
  | n + 1, 0, .tup xs, e, h => absurd e (by omega)
  | n + 1, 0, .lst xs, e, h => absurd e (by omega)
  | n + 1, 0, .dic xs, e, h => absurd e (by omega)
  | n + 1, m + 1, .tup xs, e, h => by
    simp only [rp] at h ⊢
    exact rps_mono n m xs (by omega) h
  | n + 1, m + 1, .lst xs, e, h => by
    simp only [rp] at h ⊢
    exact rps_mono n m xs (by omega) h
  | n + 1, m + 1, .dic xs, e, h => by
    simp only [rp] at h ⊢
    exact rpk_mono n m xs (by omega) h
  | n, m, .obj _ _, _, h => by cases n <;> simp [rp] at h
  | n, m, .opq _, _, h => by cases n <;> simp [rp] at h
theorem rps_mono : ∀ (n m : Nat) (d : List D), n ≤ m → rps n d = true → rps m d = true
  | n, m, [], _, _ => by simp [rps]
  | n, m, x :: xs, e, h => by
    simp only [rps, Bool.and_eq_true] at h ⊢
    exact ⟨rp_mono n m x e h.1, rps_mono n m xs e h.2⟩
theorem rpk_mono : ∀ (n m : Nat) (d : List (Key × D)), n ≤ m → rpk n d = true → rpk m d = true
  | n, m, [], _, _ => by simp [rpk]
  | n, m, (.inl k, x) :: xs, e, h => by
    simp only [rpk, Bool.and_eq_true] at h ⊢
    exact ⟨rp_mono n m x e h.1, rpk_mono n m xs e h.2⟩
  | n, m, (.inr k, x) :: xs, e, h => by
    simp only [rpk, Bool.and_eq_true] at h ⊢
    exact ⟨⟨h.1.1, rp_mono n m x e h.1.2⟩, rpk_mono n m xs e h.2⟩
end
theorem rp_ty {n : Nat} {x : D} (h : rp n x = true) : (tyD x).isSome = true := by
  cases x <;> simp [tyD] <;> cases n <;> simp [rp] at h
mutual
/-- integers within are below m -/
def sm (m : Nat) : D → Bool
  | .int i => decide (i.natAbs < m)
  | .tup xs => sms m xs
  | .lst xs => sms m xs
  | .dic xs => smk m xs
  | _ => true
def sms (m : Nat) : List D → Bool
  | [] => true
  | x :: xs => sm m x && sms m xs
def smk (m : Nat) : List (Key × D) → Bool
  | [] => true
  | (.inl k, x) :: xs => decide (k.natAbs < m) && sm m x && smk m xs
  | (.inr k, x) :: xs => sm m x && smk m xs
end
theorem sms_all (n : Nat) : ∀ xs : List D, sms n xs = xs.all (sm n)
  | [] => by simp [sms]
  | x :: xs => by simp [sms, sms_all n xs]
mutual
theorem sm_mono : ∀ (n m : Nat) (d : D), n ≤ m → sm n d = true → sm m d = true
  | n, m, .non, _, _ => by simp [sm]
  | n, m, .bl b, _, _ => by simp [sm]
  | n, m, .int b, e, h => by
    simp only [sm, decide_eq_true_eq] at h ⊢
    omega
  | n, m, .str x, _, h => by simp [sm]
  | n, m, .tup xs, e, h => by
    simp only [sm] at h ⊢
    exact sms_mono n m xs e h
  | n, m, .lst xs, e, h => by
    simp only [sm] at h ⊢
    exact sms_mono n m xs e h
  | n, m, .dic xs, e, h => by
    simp only [sm] at h ⊢
    exact smk_mono n m xs e h
  | n, m, .obj _ _, _, h => by simp [sm]
  | n, m, .opq _, _, h => by simp [sm]
theorem sms_mono : ∀ (n m : Nat) (d : List D), n ≤ m → sms n d = true → sms m d = true
  | n, m, [], _, _ => by simp [sms]
  | n, m, x :: xs, e, h => by
    simp only [sms, Bool.and_eq_true] at h ⊢
    exact ⟨sm_mono n m x e h.1, sms_mono n m xs e h.2⟩
theorem smk_mono : ∀ (n m : Nat) (d : List (Key × D)), n ≤ m → smk n d = true → smk m d = true
  | n, m, [], _, _ => by simp [smk]
  | n, m, (.inl k, x) :: xs, e, h => by
    simp only [smk, Bool.and_eq_true, decide_eq_true_eq] at h ⊢
    exact ⟨⟨Nat.lt_of_lt_of_le h.1.1 e, sm_mono n m x e h.1.2⟩, smk_mono n m xs e h.2⟩
  | n, m, (.inr k, x) :: xs, e, h => by
    simp only [smk, Bool.and_eq_true] at h ⊢
    exact ⟨sm_mono n m x e h.1, smk_mono n m xs e h.2⟩
end
mutual
theorem sm_big : ∀ (d : D), sm (10 ^ 4300) d = true → bigOk (toPy d) = true
  | .non, _ => by simp [toPy, bigOk]
  | .bl b, _ => by simp [toPy, bigOk]
  | .int b, h => by simpa only [sm, toPy, bigOk] using h
  | .str x, h => by simp [toPy, bigOk]
  | .tup xs, h => by
    simp only [sm, toPy, bigOk] at h ⊢
    exact sms_big xs h
  | .lst xs, h => by
    simp only [sm, toPy, bigOk] at h ⊢
    exact sms_big xs h
  | .dic xs, h => by
    simp only [sm, toPy, bigOk] at h ⊢
    exact smk_big xs h
  | .obj _ _, h => by simp [toPy, bigOk]
  | .opq _, h => by simp [toPy, bigOk]
theorem sms_big : ∀ (d : List D), sms (10 ^ 4300) d = true → bigAll (toPys d) = true
  | [], _ => by simp [toPys, bigAll]
  | x :: xs, h => by
    simp only [sms, toPys, bigAll, Bool.and_eq_true] at h ⊢
    exact ⟨sm_big x h.1, sms_big xs h.2⟩
theorem smk_big : ∀ (d : List (Key × D)), smk (10 ^ 4300) d = true → bigKv (toPyK d) = true
  | [], _ => by simp [toPyK, bigKv]
  | (.inl k, x) :: xs, h => by
    simp only [smk, toPyK, bigKv, bigOk, Bool.and_eq_true] at h ⊢
    exact ⟨⟨h.1.1, sm_big x h.1.2⟩, smk_big xs h.2⟩
  | (.inr k, x) :: xs, h => by
    simp only [smk, toPyK, bigKv, bigOk, Bool.and_eq_true] at h ⊢
    exact ⟨⟨trivial, sm_big x h.1⟩, smk_big xs h.2⟩
end
/-- data at most n deep, integers below 2 ^ m, a repr of at most s signs -/
structure Pok (n m s : Nat) (x : D) : Prop where
  r : rp n x = true
  b : sm (2 ^ m) x = true
  z : rsz x ≤ s
theorem Pok.up {n m s n' m' s' : Nat} {x : D} (h : Pok n m s x) (e1 : n ≤ n') (e2 : m ≤ m') (e3 : s ≤ s') : Pok n' m' s' x := ⟨rp_mono _ _ _ e1 h.r, sm_mono _ _ _ (Nat.pow_le_pow_right (by decide) e2) h.b, Nat.le_trans h.z e3⟩
theorem Pok.ty {n m s : Nat} {x : D} (h : Pok n m s x) : (tyD x).isSome = true := rp_ty h.r
theorem pw4300 : (2 : Nat) ^ 14000 ≤ 10 ^ 4300 := by decide +kernel
theorem Pok.rok {n m s : Nat} {x : D} (h : Pok n m s x) (e1 : n ≤ 64) (e2 : m ≤ 14000) (e3 : s ≤ 16000000) (nd : isDct (toPy x) = false) : Rok x :=
  ⟨rp_mono _ _ _ e1 h.r, nd, sm_big _ (sm_mono _ _ _ (Nat.le_trans (Nat.pow_le_pow_right (by decide) e2) pw4300) h.b), Nat.le_trans h.z e3⟩
theorem pok_tup {n m : Nat} {xs : List D} (h1 : rps n xs = true) (h2 : sms (2 ^ m) xs = true) : Pok (n + 1) m (rszs xs + 3) (.tup xs) := ⟨by simpa only [rp] using h1, by simpa only [sm] using h2, by simp [rsz]⟩
theorem pok_lst {n m : Nat} {xs : List D} (h1 : rps n xs = true) (h2 : sms (2 ^ m) xs = true) : Pok (n + 1) m (rszs xs + 3) (.lst xs) := ⟨by simpa only [rp] using h1, by simpa only [sm] using h2, by simp [rsz]⟩
theorem Sz.sm {n : Nat} {i : Int} (h : Sz n i) : sm (2 ^ n) (.int i) = true := by
  simp only [ND.sm, decide_eq_true_eq]
  exact h
theorem pok_int {m : Nat} {i : Int} (h : Sz m i) : Pok 0 m 4301 (.int i) := ⟨by simp [rp], h.sm, by simp [rsz]⟩
theorem ints5 : intsFrom 0 5 = [.int 0, .int 1, .int 2, .int 3, .int 4] := rfl
def look3 (l : List (Str × Str × Bool)) (a b : Str) : Option Bool := (l.find? fun e => e.1 == a && e.2.1 == b).map fun e => e.2.2
theorem look3_mem {l : List (Str × Str × Bool)} {a b : Str} {r : Bool} (h : look3 l a b = some r) : (a, b, r) ∈ l := by
  unfold look3 at h
  obtain ⟨⟨x, y, z⟩, e, rfl⟩ := Option.map_eq_some_iff.mp h
  have h1 := List.find?_some e
  simp only [Bool.and_eq_true, beq_iff_eq] at h1
  obtain ⟨rfl, rfl⟩ := h1
  exact List.mem_of_find?_eq_some e
theorem tabIn_of {K : PySem.W.Frag} {x : Str} {f c P : Addr} {fd : FuncData} {oc tc : Value} {od td : Option Addr} {sl ts : Array (Option Value)} {tv : Array Value} (a : PySem.W.nsIn K mainGlobals x = some (some (.ref f))) (l : K.lookup f = some ⟨oc, od, .func fd, sl⟩)
    (hc : fd.code = .ref c) (t : K.lookup c = some ⟨tc, td, .fields tv, ts⟩) (e : tv[11]? = some (.ref P)) : PySem.W.tabIn K x = some (c, P) := by
  unfold PySem.W.tabIn
  simp only [a, l, hc, t, e]
end ND

/-! ND27: a shown text has good signs -/
namespace ND
open PySem PySem.Spec L2 PySem.Builtin.Str
def Good (x : Str) : Prop := ∀ c ∈ x.cps.toList, c < 0x110000
theorem good_iff {x : Str} : PyData.strOk x = true ↔ Good x := by
  unfold PyData.strOk Good
  rw [← Array.all_toList, List.all_eq_true]
  exact ⟨fun h c m => of_decide_eq_true (h c m), fun h c m => decide_eq_true (h c m)⟩
theorem Good.app {x y : Str} (h : Good x) (k : Good y) : Good (x ++ y) := fun c m => by
  have e : (x ++ y).cps.toList = x.cps.toList ++ y.cps.toList := by
    show (x.cps ++ y.cps).toList = _
    exact Array.toList_append
  rw [e] at m
  exact (List.mem_append.mp m).elim (h c) (k c)
theorem good_of (s : String) : Good (Str.ofString s) := fun c m => by
  rw [Str.ofString_eq_toList] at m
  obtain ⟨a, _, rfl⟩ := List.mem_map.mp (by simpa using m)
  have := a.valid
  simp only [UInt32.isValidChar, Nat.isValidChar] at this
  show a.val.toNat < 0x110000
  omega
theorem good_join {s : Str} (h : Good s) : ∀ ts : List Str, (∀ t ∈ ts, Good t) → Good (Str.join s ts)
  | [], _ => fun c m => by simp [Str.join, Str.empty] at m
  | [x], k => k x (List.mem_singleton_self _)
  | x :: y :: r, k => ((k x List.mem_cons_self).app h).app (good_join h (y :: r) fun t m => k t (List.mem_cons_of_mem _ m))
theorem good_from : ∀ (ts : List Str) (k : Nat) (acc : Str), Good acc → (∀ t ∈ ts, Good t) → Good (textFrom k acc ts)
  | [], _, _, h, _ => h
  | t :: r, k, acc, h, z => good_from r (k + 1) _ ((h.app (good_of _)).app (z t List.mem_cons_self)) fun u m => z u (List.mem_cons_of_mem _ m)
theorem digits_good (w c d : Nat) (m : d ∈ List.replicate (w - ((Nat.toDigits 16 c).map Char.toNat).length) 48 ++ (Nat.toDigits 16 c).map Char.toNat) : d < 0x110000 := by
  rcases List.mem_append.mp m with h | h
  · rw [List.eq_of_mem_replicate h]
    decide
  · obtain ⟨a, _, rfl⟩ := List.mem_map.mp h
    have := a.valid
    simp only [UInt32.isValidChar, Nat.isValidChar] at this
    show a.val.toNat < 0x110000
    omega
theorem reprChar_good {q c : Nat} (hq : q < 0x110000) (hc : c < 0x110000) : ∀ d ∈ Builtin.Str.reprChar q c, d < 0x110000 := by
  intro d m
  unfold Builtin.Str.reprChar at m
  dsimp only at m
  repeat' split at m
  all_goals first
    | (simp only [List.mem_cons, List.not_mem_nil, or_false] at m; omega)
    | (rcases List.mem_append.mp m with h | h
       · simp only [List.mem_cons, List.not_mem_nil, or_false] at h
         omega
       · exact digits_good _ _ _ h)
theorem foldl_good {q : Nat} (hq : q < 0x110000) : ∀ (l : List Nat) (acc : Array Nat), (∀ c ∈ l, c < 0x110000) → (∀ c ∈ acc.toList, c < 0x110000) → ∀ c ∈ (l.foldl (fun out c => out ++ (Builtin.Str.reprChar q c).toArray) acc).toList, c < 0x110000
  | [], acc, _, h => h
  | x :: r, acc, k, h => foldl_good hq r _ (fun c m => k c (List.mem_cons_of_mem _ m)) fun c m => by
    rw [Array.toList_append] at m
    rcases List.mem_append.mp m with z | z
    · exact h c z
    · exact reprChar_good hq (k x List.mem_cons_self) c (by simpa using z)
theorem reprText_good {x : Str} (h : Good x) : Good (reprText x) := fun c m => by
  have hq : reprQuote x < 0x110000 := by
    unfold reprQuote
    split <;> decide
  unfold reprText at m
  simp only [Array.toList_push, List.mem_append, List.mem_singleton, ← Array.foldl_toList] at m
  rcases m with m | m
  · refine foldl_good hq x.cps.toList _ h (fun d z => ?_) c m
    simp at z
    omega
  · omega
theorem good_tuple {ts : List Str} (h : ∀ t ∈ ts, Good t) : Good (tupleText ts) := by
  unfold tupleText
  exact ((good_of _).app (good_join (good_of _) ts h)).app (good_of _)
theorem good_list {ts : List Str} (h : ∀ t ∈ ts, Good t) : Good (listText ts) := (good_from ts 0 _ (good_of _) h).app (good_of _)
theorem good_dict {ts : List Str} (h : ∀ t ∈ ts, Good t) : Good (dictText ts) := by
  unfold dictText
  exact ((good_of _).app (good_join (good_of _) ts h)).app (good_of _)
mutual
theorem shown_good : ∀ (n : Nat) (d : D), rp n d = true → Good (toPy d).shown
  | _, .non, _ => good_of "None"
  | _, .bl b, _ => by
    cases b
    · exact good_of "False"
    · exact good_of "True"
  | _, .int i, _ => by
    simp only [toPy, PyData.shown]
    exact good_of _
  | n, .str x, h => by
    simp only [toPy, PyData.shown]
    exact reprText_good (good_iff.mp (by cases n <;> simpa only [rp] using h))
  | 0, .tup xs, h => by simp [rp] at h
  | 0, .lst xs, h => by simp [rp] at h
  | 0, .dic xs, h => by simp [rp] at h
  | n + 1, .tup xs, h => by
    simp only [toPy, PyData.shown]
    exact good_tuple (shownAll_good n xs (by simpa only [rp] using h))
  | n + 1, .lst xs, h => by
    simp only [toPy, PyData.shown]
    exact good_list (shownAll_good n xs (by simpa only [rp] using h))
  | n + 1, .dic xs, h => by
    simp only [toPy, PyData.shown]
    exact good_dict (shownKv_good n xs (by simpa only [rp] using h))
  | n, .obj _ _, h => by simp [rp] at h
  | n, .opq _, h => by simp [rp] at h
theorem shownAll_good : ∀ (n : Nat) (xs : List D), rps n xs = true → ∀ t ∈ PyData.shownAll (toPys xs), Good t
  | _, [], _ => fun t m => by simp [toPys, PyData.shownAll] at m
  | n, x :: xs, h => by
    simp only [rps, Bool.and_eq_true] at h
    intro t m
    simp only [toPys, PyData.shownAll, List.mem_cons] at m
    rcases m with rfl | m
    · exact shown_good n x h.1
    · exact shownAll_good n xs h.2 t m
theorem shownKv_good : ∀ (n : Nat) (xs : List (Key × D)), rpk n xs = true → ∀ t ∈ PyData.shownKv (toPyK xs), Good t
  | _, [], _ => fun t m => by simp [toPyK, PyData.shownKv] at m
  | n, (.inl k, x) :: xs, h => by
    simp only [rpk, Bool.and_eq_true] at h
    intro t m
    simp only [toPyK, PyData.shownKv, List.mem_cons] at m
    rcases m with rfl | m
    · exact (Good.app (by simp only [PyData.shown]; exact good_of _) (good_of _)).app (shown_good n x h.1)
    · exact shownKv_good n xs h.2 t m
  | n, (.inr k, x) :: xs, h => by
    simp only [rpk, Bool.and_eq_true] at h
    intro t m
    simp only [toPyK, PyData.shownKv, List.mem_cons] at m
    rcases m with rfl | m
    · exact (Good.app (by simp only [PyData.shown]; exact reprText_good (good_iff.mp h.1.1)) (good_of _)).app (shown_good n x h.1.2)
    · exact shownKv_good n xs h.2 t m
end
/-- the text of a repr can be shown too -/
theorem Pok.text {n m s : Nat} {x : D} (h : Pok n m s x) (e1 : n ≤ 64) (e2 : m ≤ 14000) (e3 : s ≤ 1500000) : Rok (.str (toPy x).shown) := by
  have hl : (toPy x).shown.length ≤ rsz x := shown_rsz _ _ h.r (sm_big _ (sm_mono _ _ _ (Nat.le_trans (Nat.pow_le_pow_right (by decide) e2) pw4300) h.b))
  refine ⟨?_, by simp [toPy, isDct], by simp [toPy, bigOk], ?_⟩
  · simp only [rp]
    exact good_iff.mpr (shown_good _ _ h.r)
  · simp only [rsz]
    have := h.z
    have e : (toPy x).shown.length = (toPy x).shown.cps.size := rfl
    omega
@[simp] theorem szl0 : (0 < sizeLine) = True := eq_true (by decide)
@[simp] theorem sze0 : (0 ≤ sizeLine) = True := eq_true (by decide)
@[simp] theorem szl1 : (1 < sizeLine) = True := eq_true (by decide)
@[simp] theorem sze1 : (1 ≤ sizeLine) = True := eq_true (by decide)
@[simp] theorem szl2 : (2 < sizeLine) = True := eq_true (by decide)
@[simp] theorem sze2 : (2 ≤ sizeLine) = True := eq_true (by decide)
@[simp] theorem szl3 : (3 < sizeLine) = True := eq_true (by decide)
@[simp] theorem sze3 : (3 ≤ sizeLine) = True := eq_true (by decide)
@[simp] theorem szl4 : (4 < sizeLine) = True := eq_true (by decide)
@[simp] theorem sze4 : (4 ≤ sizeLine) = True := eq_true (by decide)
@[simp] theorem szl5 : (5 < sizeLine) = True := eq_true (by decide)
@[simp] theorem sze5 : (5 ≤ sizeLine) = True := eq_true (by decide)
@[simp] theorem szl6 : (6 < sizeLine) = True := eq_true (by decide)
@[simp] theorem sze6 : (6 ≤ sizeLine) = True := eq_true (by decide)
@[simp] theorem szl7 : (7 < sizeLine) = True := eq_true (by decide)
@[simp] theorem sze7 : (7 ≤ sizeLine) = True := eq_true (by decide)
@[simp] theorem szl8 : (8 < sizeLine) = True := eq_true (by decide)
@[simp] theorem sze8 : (8 ≤ sizeLine) = True := eq_true (by decide)
@[simp] theorem szl9 : (9 < sizeLine) = True := eq_true (by decide)
@[simp] theorem sze9 : (9 ≤ sizeLine) = True := eq_true (by decide)
@[simp] theorem szl10 : (10 < sizeLine) = True := eq_true (by decide)
@[simp] theorem sze10 : (10 ≤ sizeLine) = True := eq_true (by decide)
@[simp] theorem szl11 : (11 < sizeLine) = True := eq_true (by decide)
@[simp] theorem sze11 : (11 ≤ sizeLine) = True := eq_true (by decide)
@[simp] theorem szl12 : (12 < sizeLine) = True := eq_true (by decide)
@[simp] theorem sze12 : (12 ≤ sizeLine) = True := eq_true (by decide)
@[simp] theorem szl13 : (13 < sizeLine) = True := eq_true (by decide)
@[simp] theorem sze13 : (13 ≤ sizeLine) = True := eq_true (by decide)
@[simp] theorem szl14 : (14 < sizeLine) = True := eq_true (by decide)
@[simp] theorem sze14 : (14 ≤ sizeLine) = True := eq_true (by decide)
@[simp] theorem szl15 : (15 < sizeLine) = True := eq_true (by decide)
@[simp] theorem sze15 : (15 ≤ sizeLine) = True := eq_true (by decide)
@[simp] theorem szl16 : (16 < sizeLine) = True := eq_true (by decide)
@[simp] theorem sze16 : (16 ≤ sizeLine) = True := eq_true (by decide)
@[simp] theorem szl17 : (17 < sizeLine) = True := eq_true (by decide)
@[simp] theorem sze17 : (17 ≤ sizeLine) = True := eq_true (by decide)
@[simp] theorem szl18 : (18 < sizeLine) = True := eq_true (by decide)
@[simp] theorem sze18 : (18 ≤ sizeLine) = True := eq_true (by decide)
@[simp] theorem szl19 : (19 < sizeLine) = True := eq_true (by decide)
@[simp] theorem sze19 : (19 ≤ sizeLine) = True := eq_true (by decide)
@[simp] theorem szl20 : (20 < sizeLine) = True := eq_true (by decide)
@[simp] theorem sze20 : (20 ≤ sizeLine) = True := eq_true (by decide)
@[simp] theorem szl21 : (21 < sizeLine) = True := eq_true (by decide)
@[simp] theorem sze21 : (21 ≤ sizeLine) = True := eq_true (by decide)
@[simp] theorem szl22 : (22 < sizeLine) = True := eq_true (by decide)
@[simp] theorem sze22 : (22 ≤ sizeLine) = True := eq_true (by decide)
@[simp] theorem szl23 : (23 < sizeLine) = True := eq_true (by decide)
@[simp] theorem sze23 : (23 ≤ sizeLine) = True := eq_true (by decide)
@[simp] theorem szl24 : (24 < sizeLine) = True := eq_true (by decide)
@[simp] theorem sze24 : (24 ≤ sizeLine) = True := eq_true (by decide)
@[simp] theorem szl25 : (25 < sizeLine) = True := eq_true (by decide)
@[simp] theorem sze25 : (25 ≤ sizeLine) = True := eq_true (by decide)
@[simp] theorem szl26 : (26 < sizeLine) = True := eq_true (by decide)
@[simp] theorem sze26 : (26 ≤ sizeLine) = True := eq_true (by decide)
@[simp] theorem szl27 : (27 < sizeLine) = True := eq_true (by decide)
@[simp] theorem sze27 : (27 ≤ sizeLine) = True := eq_true (by decide)
@[simp] theorem szl28 : (28 < sizeLine) = True := eq_true (by decide)
@[simp] theorem sze28 : (28 ≤ sizeLine) = True := eq_true (by decide)
@[simp] theorem szl29 : (29 < sizeLine) = True := eq_true (by decide)
@[simp] theorem sze29 : (29 ≤ sizeLine) = True := eq_true (by decide)
@[simp] theorem szl30 : (30 < sizeLine) = True := eq_true (by decide)
@[simp] theorem sze30 : (30 ≤ sizeLine) = True := eq_true (by decide)
@[simp] theorem szl31 : (31 < sizeLine) = True := eq_true (by decide)
@[simp] theorem sze31 : (31 ≤ sizeLine) = True := eq_true (by decide)
@[simp] theorem szl32 : (32 < sizeLine) = True := eq_true (by decide)
@[simp] theorem sze32 : (32 ≤ sizeLine) = True := eq_true (by decide)
@[simp] theorem szl33 : (33 < sizeLine) = True := eq_true (by decide)
@[simp] theorem sze33 : (33 ≤ sizeLine) = True := eq_true (by decide)
@[simp] theorem szl34 : (34 < sizeLine) = True := eq_true (by decide)
@[simp] theorem sze34 : (34 ≤ sizeLine) = True := eq_true (by decide)
@[simp] theorem szl35 : (35 < sizeLine) = True := eq_true (by decide)
@[simp] theorem sze35 : (35 ≤ sizeLine) = True := eq_true (by decide)
@[simp] theorem szl36 : (36 < sizeLine) = True := eq_true (by decide)
@[simp] theorem sze36 : (36 ≤ sizeLine) = True := eq_true (by decide)
@[simp] theorem szl37 : (37 < sizeLine) = True := eq_true (by decide)
@[simp] theorem sze37 : (37 ≤ sizeLine) = True := eq_true (by decide)
@[simp] theorem szl38 : (38 < sizeLine) = True := eq_true (by decide)
@[simp] theorem sze38 : (38 ≤ sizeLine) = True := eq_true (by decide)
@[simp] theorem szl39 : (39 < sizeLine) = True := eq_true (by decide)
@[simp] theorem sze39 : (39 ≤ sizeLine) = True := eq_true (by decide)
@[simp] theorem szl40 : (40 < sizeLine) = True := eq_true (by decide)
@[simp] theorem sze40 : (40 ≤ sizeLine) = True := eq_true (by decide)
@[simp] theorem szl41 : (41 < sizeLine) = True := eq_true (by decide)
@[simp] theorem sze41 : (41 ≤ sizeLine) = True := eq_true (by decide)
@[simp] theorem szl42 : (42 < sizeLine) = True := eq_true (by decide)
@[simp] theorem sze42 : (42 ≤ sizeLine) = True := eq_true (by decide)
@[simp] theorem szl43 : (43 < sizeLine) = True := eq_true (by decide)
@[simp] theorem sze43 : (43 ≤ sizeLine) = True := eq_true (by decide)
@[simp] theorem szl44 : (44 < sizeLine) = True := eq_true (by decide)
@[simp] theorem sze44 : (44 ≤ sizeLine) = True := eq_true (by decide)
@[simp] theorem szl45 : (45 < sizeLine) = True := eq_true (by decide)
@[simp] theorem sze45 : (45 ≤ sizeLine) = True := eq_true (by decide)
@[simp] theorem szl46 : (46 < sizeLine) = True := eq_true (by decide)
@[simp] theorem sze46 : (46 ≤ sizeLine) = True := eq_true (by decide)
@[simp] theorem szl47 : (47 < sizeLine) = True := eq_true (by decide)
@[simp] theorem sze47 : (47 ≤ sizeLine) = True := eq_true (by decide)
@[simp] theorem szl48 : (48 < sizeLine) = True := eq_true (by decide)
@[simp] theorem sze48 : (48 ≤ sizeLine) = True := eq_true (by decide)
@[simp] theorem szl49 : (49 < sizeLine) = True := eq_true (by decide)
@[simp] theorem sze49 : (49 ≤ sizeLine) = True := eq_true (by decide)
@[simp] theorem szl50 : (50 < sizeLine) = True := eq_true (by decide)
@[simp] theorem sze50 : (50 ≤ sizeLine) = True := eq_true (by decide)
@[simp] theorem szl51 : (51 < sizeLine) = True := eq_true (by decide)
@[simp] theorem sze51 : (51 ≤ sizeLine) = True := eq_true (by decide)
@[simp] theorem szl52 : (52 < sizeLine) = True := eq_true (by decide)
@[simp] theorem sze52 : (52 ≤ sizeLine) = True := eq_true (by decide)
@[simp] theorem szl53 : (53 < sizeLine) = True := eq_true (by decide)
@[simp] theorem sze53 : (53 ≤ sizeLine) = True := eq_true (by decide)
@[simp] theorem szl54 : (54 < sizeLine) = True := eq_true (by decide)
@[simp] theorem sze54 : (54 ≤ sizeLine) = True := eq_true (by decide)
@[simp] theorem szl55 : (55 < sizeLine) = True := eq_true (by decide)
@[simp] theorem sze55 : (55 ≤ sizeLine) = True := eq_true (by decide)
@[simp] theorem szl56 : (56 < sizeLine) = True := eq_true (by decide)
@[simp] theorem sze56 : (56 ≤ sizeLine) = True := eq_true (by decide)
@[simp] theorem szl57 : (57 < sizeLine) = True := eq_true (by decide)
@[simp] theorem sze57 : (57 ≤ sizeLine) = True := eq_true (by decide)
@[simp] theorem szl58 : (58 < sizeLine) = True := eq_true (by decide)
@[simp] theorem sze58 : (58 ≤ sizeLine) = True := eq_true (by decide)
@[simp] theorem szl59 : (59 < sizeLine) = True := eq_true (by decide)
@[simp] theorem sze59 : (59 ≤ sizeLine) = True := eq_true (by decide)
@[simp] theorem szl60 : (60 < sizeLine) = True := eq_true (by decide)
@[simp] theorem sze60 : (60 ≤ sizeLine) = True := eq_true (by decide)
@[simp] theorem szl61 : (61 < sizeLine) = True := eq_true (by decide)
@[simp] theorem sze61 : (61 ≤ sizeLine) = True := eq_true (by decide)
@[simp] theorem szl62 : (62 < sizeLine) = True := eq_true (by decide)
@[simp] theorem sze62 : (62 ≤ sizeLine) = True := eq_true (by decide)
@[simp] theorem szl63 : (63 < sizeLine) = True := eq_true (by decide)
@[simp] theorem sze63 : (63 ≤ sizeLine) = True := eq_true (by decide)
@[simp] theorem szl64 : (64 < sizeLine) = True := eq_true (by decide)
@[simp] theorem sze64 : (64 ≤ sizeLine) = True := eq_true (by decide)
@[simp] theorem szl65 : (65 < sizeLine) = True := eq_true (by decide)
@[simp] theorem sze65 : (65 ≤ sizeLine) = True := eq_true (by decide)
@[simp] theorem szl66 : (66 < sizeLine) = True := eq_true (by decide)
@[simp] theorem sze66 : (66 ≤ sizeLine) = True := eq_true (by decide)
@[simp] theorem szl67 : (67 < sizeLine) = True := eq_true (by decide)
@[simp] theorem sze67 : (67 ≤ sizeLine) = True := eq_true (by decide)
@[simp] theorem szl68 : (68 < sizeLine) = True := eq_true (by decide)
@[simp] theorem sze68 : (68 ≤ sizeLine) = True := eq_true (by decide)
@[simp] theorem szl69 : (69 < sizeLine) = True := eq_true (by decide)
@[simp] theorem sze69 : (69 ≤ sizeLine) = True := eq_true (by decide)
theorem ixn_in {n : Nat} {i : Int} (h0 : 0 ≤ i) (h1 : i < n) : ixN n i = some i.toNat := by simp [ixN, h0, h1]
@[simp] theorem ix_t0 (a : D) (r : List D) (Q : D → Prop) : ixD (.tup (a :: r)) (.int 0) Q = Q a := by simp [ixD, atI, ixN]
@[simp] theorem ix_t1 (a b : D) (r : List D) (Q : D → Prop) : ixD (.tup (a :: b :: r)) (.int 1) Q = Q b := by
  have h : (1 : Int) < (r.length : Int) + 1 + 1 := by omega
  simp [ixD, atI, ixN, h]
@[simp] theorem ix_t2 (a b c : D) (r : List D) (Q : D → Prop) : ixD (.tup (a :: b :: c :: r)) (.int 2) Q = Q c := by
  have h : (2 : Int) < (r.length : Int) + 1 + 1 + 1 := by omega
  simp [ixD, atI, ixN, h]
@[simp] theorem ix_l0 (a : D) (r : List D) (Q : D → Prop) : ixD (.lst (a :: r)) (.int 0) Q = Q a := by simp [ixD, atI, ixN]
@[simp] theorem ix_l1 (a b : D) (r : List D) (Q : D → Prop) : ixD (.lst (a :: b :: r)) (.int 1) Q = Q b := by
  have h : (1 : Int) < (r.length : Int) + 1 + 1 := by omega
  simp [ixD, atI, ixN, h]
@[simp] theorem ix_l2 (a b c : D) (r : List D) (Q : D → Prop) : ixD (.lst (a :: b :: c :: r)) (.int 2) Q = Q c := by
  have h : (2 : Int) < (r.length : Int) + 1 + 1 + 1 := by omega
  simp [ixD, atI, ixN, h]
end ND

/-! ND28: what an expression is, where it can be only one thing -/
namespace ND
open PySem PySem.Spec L2
structure Ev (σ : List SV) (f : GE) (x : D) : Prop where
  run : ∀ Q : D → Prop, Q x → f σ Q
structure EvA (σ : List SV) (f : GA) (x : List D) : Prop where
  run : ∀ Q : List D → Prop, Q x → f σ Q
section
variable {σ : List SV} {f g : GE} {fs : GA} {x y : D} {xs ys : List D} {i j : Int}
theorem Ev.c : Ev σ (gC x) x := ⟨fun _ q => q⟩
theorem Ev.var {n : Nat} (h : σ[n]? = some (.d x)) : Ev σ (gVar n) x := ⟨fun Q q => by
  unfold gVar
  rw [h]
  exact q⟩
theorem EvA.nil : EvA σ ND.gNil [] := ⟨fun _ q => q⟩
theorem EvA.cons (h : Ev σ f x) (k : EvA σ fs xs) : EvA σ (ND.gCons f fs) (x :: xs) := ⟨fun Q q => h.run _ (k.run _ q)⟩
theorem Ev.tup (h : EvA σ fs xs) (hl : xs.length ≤ sizeLine) : Ev σ (ND.gTup fs) (.tup xs) := ⟨fun Q q => h.run _ ⟨hl, q⟩⟩
theorem Ev.lst (h : EvA σ fs xs) (hl : xs.length ≤ sizeLine) : Ev σ (gFrz (gLst fs)) (.lst xs) := ⟨fun Q q => h.run _ ⟨hl, q⟩⟩
theorem Ev.neg (h : Ev σ f (.int i)) : Ev σ (gUn negD f) (.int (-i)) := ⟨fun Q q => h.run _ q⟩
theorem Ev.rev (h : Ev σ f (.tup xs)) : Ev σ (gUn revD f) (.tup xs.reverse) := ⟨fun Q q => h.run _ q⟩
theorem Ev.dic {k : Key} (h : Ev σ f x) : Ev σ (gDic1 k f) (.dic [(k, x)]) := ⟨fun Q q => h.run _ q⟩
theorem Ev.addL (h : Ev σ f (.lst xs)) (k : Ev σ g (.lst ys)) (hl : xs.length + ys.length ≤ sizeLine) : Ev σ (gBin addD f g) (.lst (xs ++ ys)) := ⟨fun Q q => h.run _ (k.run _ ⟨hl, q⟩)⟩
theorem Ev.addT (h : Ev σ f (.tup xs)) (k : Ev σ g (.tup ys)) (hl : xs.length + ys.length ≤ sizeLine) : Ev σ (gBin addD f g) (.tup (xs ++ ys)) := ⟨fun Q q => h.run _ (k.run _ ⟨hl, q⟩)⟩
theorem Ev.addI (h : Ev σ f (.int i)) (k : Ev σ g (.int j)) : Ev σ (gBin addD f g) (.int (i + j)) := ⟨fun Q q => h.run _ (k.run _ q)⟩
theorem Ev.subI (h : Ev σ f (.int i)) (k : Ev σ g (.int j)) : Ev σ (gBin subD f g) (.int (i - j)) := ⟨fun Q q => h.run _ (k.run _ q)⟩
theorem Ev.eqI (h : Ev σ f (.int i)) (k : Ev σ g (.int j)) : Ev σ (gBin eqD f g) (.bl (decide (i = j))) := ⟨fun Q q => h.run _ (k.run _ (by rw [eqD_i]; exact q))⟩
theorem Ev.mul3 (h : Ev σ f (.lst xs)) (hl : xs.length * 3 ≤ sizeLine) : Ev σ (gBin mulD f (gC (.int 3))) (.lst (xs ++ (xs ++ (xs ++ [])))) := ⟨fun Q q => h.run _ ⟨by decide, by decide, hl, q⟩⟩
theorem Ev.listT (h : Ev σ f (.tup xs)) : Ev σ (gFrz (gBltF listD (ND.gCons f ND.gNil))) (.lst xs) := ⟨fun Q q => h.run _ q⟩
theorem Ev.slLo (h : Ev σ f (.tup xs)) (k : Ev σ g (.int i)) : Ev σ (gSl slD f (gPart g) gNoPart) (.tup (cutG xs (some i) none)) := ⟨fun Q q => h.run _ (k.run _ ⟨i, rfl, q⟩)⟩
theorem Ev.slHi (h : Ev σ f (.tup xs)) (k : Ev σ g (.int i)) : Ev σ (gSl slD f gNoPart (gPart g)) (.tup (cutG xs none (some i))) := ⟨fun Q q => h.run _ (k.run _ ⟨i, rfl, q⟩)⟩
theorem Ev.strI (h : Ev σ f (.int i)) (hi : i.natAbs < 10 ^ 4300) : Ev σ (gBlt ND.strI (ND.gCons f ND.gNil)) (.str (toString i)) := ⟨fun Q q => h.run _ ⟨i, rfl, hi, q⟩⟩
theorem Ev.nines {k : Int} {n : Int} (h0 : 1 ≤ k) (e : intText? (Txt.mul (Str.ofString "9") k) = some n) (hl : (Txt.mul (Str.ofString "9") k).length ≤ sizeLine) (hk : (Str.ofString "9").length * k.toNat ≤ sizeLine) : Ev σ (gBlt intB (ND.gCons (gBin repS (gC (.str "9")) (gC (.int k))) ND.gNil)) (.int n) :=
  ⟨fun Q q => ⟨h0, hk, by decide, n, e, hl, q⟩⟩
theorem Ev.isi {T : String} {b : Bool} (h : Ev σ f x) (hk : knownT T = true) (hs : (tyD x).isSome = true) (hb : isiB T x = b) : Ev σ (gBlt isiD (ND.gCons f (ND.gCons (gC (.opq (.ty T))) ND.gNil))) (.bl b) := ⟨fun Q q => h.run _ ⟨hk, hs, by rw [hb]; exact q⟩⟩
variable {s s' : GS} {E : Ed}
theorem ifS_t (h : Ev σ f (.bl true)) (q : s E σ) : gIfS (gTru f) s s' E σ := h.run _ (by simpa using q)
theorem ifS_f (h : Ev σ f (.bl false)) (q : s' E σ) : gIfS (gTru f) s s' E σ := h.run _ (by simpa using q)
theorem seq_set {k : Nat} (h : Ev σ f x) (q : s E (σ.set k (.d x))) : gSeq (gSet k f) s E σ := h.run _ q
theorem seq_t {t : GS} (h : Ev σ f (.bl true)) (q : gSeq s t E σ) : gSeq (gIfS (gTru f) s s') t E σ := h.run _ (by simpa using q)
theorem seq_f {t : GS} (h : Ev σ f (.bl false)) (q : gSeq s' t E σ) : gSeq (gIfS (gTru f) s s') t E σ := h.run _ (by simpa using q)
theorem cut_mem {xs : List D} {a b : Option Int} {y : D} (m : y ∈ cutG xs a b) : y ∈ xs := List.mem_of_mem_drop (List.mem_of_mem_take m)
theorem cut_len (xs : List D) (a b : Option Int) : (cutG xs a b).length ≤ xs.length := by
  unfold cutG
  simp only [List.length_take, List.length_drop]
  omega
theorem pok_text {m : Nat} {i : Int} (h : i.natAbs < 10 ^ 4300) : Pok 0 m 50000 (.str (toString i)) := by
  refine ⟨?_, by simp [sm], ?_⟩
  · simp only [rp]
    exact good_iff.mpr (good_of _)
  · have e := int_text_length_le10 (k := 4300) (by decide) h
    have e2 : (Str.ofString (toString i)).length = (toString i).length := ofString_length _
    have e3 : (Str.ofString (toString i)).length = (Str.ofString (toString i)).cps.size := rfl
    simp only [rsz]
    omega
end
end ND

/-! ND29: zip of two tuples or two lists -/
namespace ND
open PySem PySem.Spec L2
section
variable {B : Bs} {X : Cx} {e e2 : Expr} {pos : Pos}
def zipL (xs ys : List D) : List D := List.zipWith (fun x y => .tup [x, y]) xs ys
theorem zipL_at {xs ys : List D} {i : Nat} {d : D} (h : (zipL xs ys)[i]? = some d) : ∃ x y, xs[i]? = some x ∧ ys[i]? = some y ∧ d = .tup [x, y] := by
  unfold zipL at h
  rw [List.getElem?_zipWith] at h
  cases hx : xs[i]? with
  | none => simp [hx] at h
  | some x =>
    cases hy : ys[i]? with
    | none => simp [hx, hy] at h
    | some y =>
      simp [hx, hy] at h
      exact ⟨x, y, rfl, rfl, h.symm⟩
theorem itOk_zipT {K : Kn} {a b : Addr} {vs us : List V} {xs ys : List D} {F : Hp} (h : SqT K.K F a vs) (r : Reps K F vs xs) (h2 : SqT K.K F b us) (r2 : Reps K F us ys) : ItOk B K (RZ.ItzT K.K a b) (zipL xs ys) F := by
  refine ⟨fun F' H' i d e1 e2 dk hd => ?_, fun F' H' i e1 e2 hi => ⟨vs, us, same_t e2 (same_t e1 h), same_t e2 (same_t e1 h2), by
    rw [r.length, r2.length]
    simp only [zipL, List.length_zipWith] at hi
    omega⟩⟩
  obtain ⟨x, y, hx, hy, rfl⟩ := zipL_at hd
  have ha : SqT K.K H' a vs := same_t e2 (same_t e1 h)
  have hb : SqT K.K H' b us := same_t e2 (same_t e1 h2)
  obtain ⟨v, hv, rv⟩ := r.get hx
  obtain ⟨u, hu, ru⟩ := r2.get hy
  refine ⟨⟨vs, us, v, u, ha, hb, hv, hu⟩, fun z H'' ⟨T, v', u', e, hT, eH, fv, fu⟩ => ?_⟩
  subst e eH
  have z1 := fv vs ha
  rw [hv] at z1
  cases z1
  have z2 := fu us hb
  rw [hu] at z2
  cases z2
  have fT := e2.free hT
  exact ⟨_, Grow.frz e2 hT, dk.frz hT, .tup (SqT.of upd_same) (.cons ((rv.mono e1).mono (same_new fT)) (.cons ((ru.mono e1).mono (same_new fT)) .nil))⟩
theorem itOk_zipL {K : Kn} {a b : Addr} {vs us : List V} {xs ys : List D} {F : Hp} (h : F a = some (.lst vs)) (r : Reps K F vs xs) (h2 : F b = some (.lst us)) (r2 : Reps K F us ys) : ItOk B K (Itz K.K a b) (zipL xs ys) F := by
  refine ⟨fun F' H' i d e1 e2 dk hd => ?_, fun F' H' i e1 e2 hi => ⟨vs, us, SqL.of (e2 _ _ (e1 _ _ h)), SqL.of (e2 _ _ (e1 _ _ h2)), by
    rw [r.length, r2.length]
    simp only [zipL, List.length_zipWith] at hi
    omega⟩⟩
  obtain ⟨x, y, hx, hy, rfl⟩ := zipL_at hd
  have ha : SqL K.K H' a vs := SqL.of (e2 _ _ (e1 _ _ h))
  have hb : SqL K.K H' b us := SqL.of (e2 _ _ (e1 _ _ h2))
  obtain ⟨v, hv, rv⟩ := r.get hx
  obtain ⟨u, hu, ru⟩ := r2.get hy
  refine ⟨⟨vs, us, v, u, ha, hb, hv, hu⟩, fun z H'' ⟨T, v', u', e, hT, eH, fv, fu⟩ => ?_⟩
  subst e eH
  have z1 := fv vs ha
  rw [hv] at z1
  cases z1
  have z2 := fu us hb
  rw [hu] at z2
  cases z2
  have fT := e2.free hT
  exact ⟨_, Grow.frz e2 hT, dk.frz hT, .tup (SqT.of upd_same) (.cons ((rv.mono e1).mono (same_new fT)) (.cons ((ru.mono e1).mono (same_new fT)) .nil))⟩
def zipD (ds : List D) (Q : List D → Prop) : Prop := (∃ xs ys, ds = [.tup xs, .tup ys] ∧ Q (zipL xs ys)) ∨ ∃ xs ys, ds = [.lst xs, .lst ys] ∧ Q (zipL xs ys)
@[simp] theorem zipD_t (xs ys : List D) (Q : List D → Prop) : zipD [.tup xs, .tup ys] Q ↔ Q (zipL xs ys) := ⟨fun h => by
  rcases h with ⟨_, _, e, q⟩ | ⟨_, _, e, q⟩ <;> cases e <;> exact q, fun q => .inl ⟨_, _, rfl, q⟩⟩
@[simp] theorem zipD_l (xs ys : List D) (Q : List D → Prop) : zipD [.lst xs, .lst ys] Q ↔ Q (zipL xs ys) := ⟨fun h => by
  rcases h with ⟨_, _, e, q⟩ | ⟨_, _, e, q⟩ <;> cases e <;> exact q, fun q => .inr ⟨_, _, rfl, q⟩⟩
@[simp] def gZip (fs : GA) (σ : List SV) (Q : List D → Prop) : Prop := fs σ fun ds => zipD ds Q
theorem pid_zip {p tpos : Pos} {elts : List Expr} {kk : Nat} {fs : GA} (hg : Gl X "zip") (hm : X.mg "zip" = none) (ha : AD B X [e, e2] fs)
    (hs : starEach [e, e2] X.env = (false, eval e X.env) :: starEach [e2] X.env := by rfl) (hpl : (backTo pos (starEach [e2] X.env)).any (·.1) = false := by rfl) :
    PID B X (.Tuple elts kk tpos) (.Call (.Name "zip" p) [e, e2] [] pos) (gZip fs) :=
  ⟨pi_imp (RZ.pi_zipA hg hm ha.run hs hpl) fun s H R ⟨σ, F, Qd, Rl, q, k⟩ => ⟨σ, F, _, Rl, q, fun ds qd F1 H1 vs g1 d1 r1 => by
    rcases qd with ⟨xs, ys, rfl, qd⟩ | ⟨xs, ys, rfl, qd⟩
    · cases r1 with
      | cons ra rr =>
        cases rr with
        | cons rb rr =>
          cases rr
          cases ra with
          | tup h r =>
            cases rb with
            | tup h2 r2 => exact ⟨_, _, _, _, rfl, .inr ⟨same_t g1.fh h, same_t g1.fh h2, k _ qd F1 H1 _ g1 d1 (itOk_zipT h r h2 r2)⟩⟩
    · cases r1 with
      | cons ra rr =>
        cases rr with
        | cons rb rr =>
          cases rr
          cases ra with
          | lst h r =>
            cases rb with
            | lst h2 r2 => exact ⟨_, _, _, _, rfl, .inl ⟨SqL.of (g1.fh _ _ h), SqL.of (g1.fh _ _ h2), k _ qd F1 H1 _ g1 d1 (itOk_zipL h r h2 r2)⟩⟩⟩⟩
end
end ND

/-! ND30: rows of five, corners, outcomes, evaluation (first written for k13) -/
namespace ND
open PySem PySem.Spec L2
def isI : D → Bool | .int _ => true | _ => false
def nOf : D → Int | .int i => i | _ => 0
def isFive : D → Bool
  | .tup xs => decide (xs.length = 5) && xs.all isI
  | _ => false
def sumN : D → Int
  | .tup xs => (xs.map nOf).sum
  | _ => 0
def isCor (x : D) : Bool := isFive x && decide (1 ≤ sumN x ∧ sumN x ≤ 4)
def isDir : D → Bool
  | .int i => decide (0 ≤ i ∧ i ≤ 4)
  | _ => false
def tup5 (f : Int → Int) : D := .tup [.int (f 0), .int (f 1), .int (f 2), .int (f 3), .int (f 4)]
def sum5 (f : Int → Int) : Int := f 0 + f 1 + f 2 + f 3 + f 4
def at5 (a b c d e i : Int) : Int := if i = 0 then a else if i = 1 then b else if i = 2 then c else if i = 3 then d else e
def rz (f : Int → Int) (j u : Int) : Int → Int := fun i => f i + if i = j then u else 0
inductive Oc where
  | ok (d : D)
  | bad (c : Str) (x : D)
def outc : Oc → (D → Prop) → (Er → Prop) → Prop
  | .ok d, Q, _ => Q d
  | .bad c x, _, R => R ⟨c, [("thing", x)]⟩
theorem five_of {j : Int} (h0 : 0 ≤ j) (h1 : j ≤ 4) : j = 0 ∨ j = 1 ∨ j = 2 ∨ j = 3 ∨ j = 4 := by omega
theorem all_lc {W : WD} {σ : List SV} {i : Nat} {Q : List D → Prop} {c : D → Bool} (sp : DSp) (hs : ∀ x Qd, (tyD x).isSome = true → Qd (.bl (c x)) → sp W [x] Qd fun _ => False) (hi : i < σ.length) : ∀ (xs acc : List D), (∀ x ∈ xs, (tyD x).isSome = true) → acc.length + xs.length ≤ sizeLine → Q (acc ++ xs.map fun x => .bl (c x)) →
    lcG (ggName i) gYes (gCall sp W (fun _ => False) (ND.gCons (gVar i) ND.gNil)) [i] σ Q xs acc
  | [], acc, _, _, q => by simpa [lcG] using q
  | x :: xs, acc, h, hl, q => by
    simp only [List.length_cons] at hl
    have e : (σ.set i (.d x))[i]? = some (.d x) := by simp [hi]
    simp only [lcG, ggName, wipeD, gYes, gCall, ND.gCons, ND.gNil, gVar, List.set_set, e, if_true]
    exact hs x _ (h x List.mem_cons_self) ⟨by omega, all_lc sp hs hi xs _ (fun y m => h y (List.mem_cons_of_mem _ m)) (by simp; omega) (by simpa using q)⟩
theorem not_lc {W : WD} {σ : List SV} {i : Nat} {Q : List D → Prop} {c : D → Bool} (sp : DSp) (hs : ∀ x Qd, (tyD x).isSome = true → Qd (.bl (c x)) → sp W [x] Qd fun _ => False) (hi : i < σ.length) : ∀ (xs acc : List D), (∀ x ∈ xs, (tyD x).isSome = true) → acc.length + xs.length ≤ sizeLine → Q (acc ++ (xs.filter fun x => !c x).map fun _ => .int 1) →
    lcG (ggName i) (gNotT (gTru (gCall sp W (fun _ => False) (ND.gCons (gVar i) ND.gNil)))) (gC (.int 1)) [i] σ Q xs acc
  | [], acc, _, _, q => by simpa [lcG] using q
  | x :: xs, acc, h, hl, q => by
    simp only [List.length_cons] at hl
    have e : (σ.set i (.d x))[i]? = some (.d x) := by simp [hi]
    simp only [lcG, ggName, wipeD, gNotT, gTru, gC, gCall, ND.gCons, ND.gNil, gVar, List.set_set, e]
    refine hs x _ (h x List.mem_cons_self) ?_
    simp only [truthD]
    cases hc : c x
    · simp only [Bool.not_false, if_true]
      exact ⟨by omega, not_lc sp hs hi xs _ (fun y m => h y (List.mem_cons_of_mem _ m)) (by simp; omega) (by simpa [hc] using q)⟩
    · simp only [Bool.not_true, Bool.false_eq_true, if_false]
      exact not_lc sp hs hi xs _ (fun y m => h y (List.mem_cons_of_mem _ m)) (by omega) (by simpa [hc] using q)
theorem bls_map (f : D → Bool) : ∀ xs : List D, blsOf (xs.map fun x => .bl (f x)) = some (xs.map f)
  | [] => rfl
  | x :: xs => by simp [blsOf, bls_map f xs]
theorem rps_ty {n : Nat} {xs : List D} (h : rps n xs = true) : ∀ x ∈ xs, (tyD x).isSome = true := fun x m => by
  rw [rps_all, List.all_eq_true] at h
  exact rp_ty (h x m)
theorem rp_tup {xs : List D} (h : rp 64 (.tup xs) = true) : ∀ x ∈ xs, (tyD x).isSome = true := rps_ty (n := 63) (by simpa only [rp] using h)
theorem isI_n {x : D} (h : isI x = true) : ∃ i, x = .int i := by
  cases x with
  | int i => exact ⟨i, rfl⟩
  | _ => simp [isI] at h
theorem len3 {xs : List D} (h : xs.length = 3) : ∃ a b c, xs = [a, b, c] := by
  match xs, h with
  | [a, b, c], _ => exact ⟨a, b, c, rfl⟩
theorem pls_ones (xs : List D) (n : Nat) : pls n (xs.map fun _ => .int 1) = true := by
  induction xs with
  | nil => simp [pls]
  | cons x xs ih => simp [pls, pl, ih]
theorem ne_nil {xs : List D} : PyData.eqv (.list (toPys xs)) (.list (toPys [])) = xs.isEmpty := by
  cases xs <;> simp [toPys, PyData.eqv, PyData.eqvAll]
theorem ne_ones {xs : List D} {P N : Prop} (q : if xs.all isI = true then P else N) : pl 64 (.lst ([] ++ (xs.filter fun x => !isI x).map fun _ => .int 1)) = true ∧ pl 64 (.lst []) = true ∧ (if eqb (.lst ([] ++ (xs.filter fun x => !isI x).map fun _ => .int 1)) (.lst []) = true then P else N) := by
  have e : ((xs.filter fun x => !isI x).map fun _ => D.int 1).isEmpty = xs.all isI := by
    induction xs with
    | nil => rfl
    | cons x xs ih => cases h : isI x <;> simp_all
  simp only [List.nil_append, pl, pls_ones, eqb, toPy, ne_nil, e]
  exact ⟨trivial, by simp [pls], q⟩
theorem ints_of : ∀ {xs : List D}, xs.all isI = true → intsOf xs = some (xs.map nOf)
  | [], _ => rfl
  | x :: xs, h => by
    simp only [List.all_cons, Bool.and_eq_true] at h
    obtain ⟨i, rfl⟩ := isI_n h.1
    simp [intsOf, ints_of h.2, nOf]
theorem five_xs {x : D} (h : isFive x = true) : ∃ xs, x = .tup xs ∧ xs.length = 5 ∧ xs.all isI = true := by
  cases x with
  | tup xs =>
    simp only [isFive, Bool.and_eq_true, decide_eq_true_eq] at h
    exact ⟨xs, rfl, h⟩
  | _ => simp [isFive] at h
theorem five_ok {xs : List D} (hl : xs.length = 5) (ha : xs.all isI = true) : isFive (.tup xs) = true := by simp [isFive, hl, ha]
theorem cor_eq {xs : List D} (hl : xs.length = 5) (ha : xs.all isI = true) : isCor (.tup xs) = decide (1 ≤ (xs.map nOf).sum ∧ (xs.map nOf).sum ≤ 4) := by
  unfold isCor
  rw [five_ok hl ha, Bool.true_and]
  rfl
theorem cor_no {x : D} (h : isFive x = false) : isCor x = false := by
  unfold isCor
  rw [h, Bool.false_and]
theorem tup5_mk (a b c d e : Int) : D.tup [.int a, .int b, .int c, .int d, .int e] = tup5 (at5 a b c d e) := by simp [tup5, at5]
theorem rp_tup5 (f : Int → Int) : rp 64 (tup5 f) = true := by simp [tup5, rp, rps]
theorem cor5 (f : Int → Int) : isCor (tup5 f) = decide (1 ≤ sum5 f ∧ sum5 f ≤ 4) := by
  have e : (([D.int (f 0), .int (f 1), .int (f 2), .int (f 3), .int (f 4)]).map nOf).sum = sum5 f := by
    simp [nOf, sum5]
    omega
  have := cor_eq (xs := [D.int (f 0), .int (f 1), .int (f 2), .int (f 3), .int (f 4)]) rfl rfl
  rw [e] at this
  exact this
theorem cor_yes {f : Int → Int} (h1 : 1 ≤ sum5 f) (h2 : sum5 f ≤ 4) : isCor (tup5 f) = true := by
  rw [cor5]
  exact decide_eq_true ⟨h1, h2⟩
theorem cor_n {x : D} (h : isCor x = true) : ∃ a b c d e, x = tup5 (at5 a b c d e) ∧ 1 ≤ sum5 (at5 a b c d e) ∧ sum5 (at5 a b c d e) ≤ 4 := by
  cases hf : isFive x
  · rw [cor_no hf] at h
    cases h
  · obtain ⟨xs, rfl, hl, ha⟩ := five_xs hf
    match xs, hl with
    | [a, b, c, d, e], _ =>
      simp at ha
      obtain ⟨h1, h2, h3, h4, h5⟩ := ha
      obtain ⟨a, rfl⟩ := isI_n h1
      obtain ⟨b, rfl⟩ := isI_n h2
      obtain ⟨c, rfl⟩ := isI_n h3
      obtain ⟨d, rfl⟩ := isI_n h4
      obtain ⟨e, rfl⟩ := isI_n h5
      rw [tup5_mk, cor5] at h
      exact ⟨a, b, c, d, e, tup5_mk _ _ _ _ _, of_decide_eq_true h⟩
theorem sum5_D {f : Int → Int} {Q : D → Prop} (q : Q (.int (sum5 f))) : sumD [tup5 f] Q := by
  refine ⟨_, ints_of rfl, ?_⟩
  have e : (([D.int (f 0), .int (f 1), .int (f 2), .int (f 3), .int (f 4)]).map nOf).sum = sum5 f := by
    simp [nOf, sum5]
    omega
  rw [e]
  exact q
theorem rz_sum {f : Int → Int} {j u : Int} (h0 : 0 ≤ j) (h1 : j ≤ 4) : sum5 (rz f j u) = sum5 f + u := by
  rcases five_of h0 h1 with h | h | h | h | h <;> subst h <;> simp [sum5, rz] <;> omega
theorem lc5 {σ : List SV} {i : Nat} {fe : GE} {Q : List D → Prop} {g : Int → D} (h : ∀ j, 0 ≤ j → j ≤ 4 → ∀ Qd : D → Prop, Qd (g j) → fe (σ.set i (.d (.int j))) Qd) (q : Q [g 0, g 1, g 2, g 3, g 4]) : lcG (ggName i) gYes fe [i] σ Q (ND.intsFrom 0 5) [] := by
  simp only [ints5, lcG, ggName, wipeD, gYes, List.set_set, if_true]
  refine h 0 (by decide) (by decide) _ ⟨by simp, h 1 (by decide) (by decide) _ ⟨by simp, h 2 (by decide) (by decide) _ ⟨by simp, h 3 (by decide) (by decide) _ ⟨by simp, h 4 (by decide) (by decide) _ ⟨by simp, q⟩⟩⟩⟩⟩
theorem tup5_ext {f g : Int → Int} (h : ∀ i, 0 ≤ i → i ≤ 4 → f i = g i) : tup5 f = tup5 g := by
  unfold tup5
  rw [h 0 (by decide) (by decide), h 1 (by decide) (by decide), h 2 (by decide) (by decide), h 3 (by decide) (by decide), h 4 (by decide) (by decide)]
theorem at5_at {f : Int → Int} {i : Int} (h0 : 0 ≤ i) (h1 : i ≤ 4) : at5 (f 0) (f 1) (f 2) (f 3) (f 4) i = f i := by
  rcases five_of h0 h1 with h | h | h | h | h <;> subst h <;> simp [at5]
theorem list5 {xs : List D} {g : Int → D} (hl : xs.length = 5) (h : ∀ i : Int, 0 ≤ i → i ≤ 4 → xs[i.toNat]? = some (g i)) : xs = [g 0, g 1, g 2, g 3, g 4] := by
  match xs, hl with
  | [a, b, c, d, e], _ =>
    have h0 := h 0 (by decide) (by decide)
    have h1 := h 1 (by decide) (by decide)
    have h2 := h 2 (by decide) (by decide)
    have h3 := h 3 (by decide) (by decide)
    have h4 := h 4 (by decide) (by decide)
    simp at h0 h1 h2 h3 h4
    rw [h0, h1, h2, h3, h4]
theorem tup5_at {f : Int → Int} {Q : D → Prop} {j : Int} (h0 : 0 ≤ j) (h1 : j ≤ 4) : ixD (tup5 f) (.int j) Q = Q (.int (f j)) := by
  rcases five_of h0 h1 with h | h | h | h | h <;> subst h <;> simp [tup5, ixD, atI, ixN]
theorem filt_lc {σ : List SV} {i : Nat} {ft : GT} {Q : List D → Prop} {c : D → Bool} (hi : i < σ.length) : ∀ (xs acc : List D), (∀ x ∈ xs, ∀ Qd : Bool → Prop, Qd (c x) → ft (σ.set i (.d x)) Qd) → acc.length + xs.length ≤ sizeLine → Q (acc ++ xs.filter c) → lcG (ggName i) ft (gVar i) [i] σ Q xs acc
  | [], acc, _, _, q => by simpa [lcG] using q
  | x :: xs, acc, h, hl, q => by
    simp only [List.length_cons] at hl
    have e : (σ.set i (.d x))[i]? = some (.d x) := by simp [hi]
    simp only [lcG, ggName, wipeD, gVar, List.set_set, e]
    refine h x List.mem_cons_self _ ?_
    cases hc : c x
    · simp only [Bool.false_eq_true, if_false]
      exact filt_lc hi xs _ (fun y m => h y (List.mem_cons_of_mem _ m)) (by omega) (by simpa [hc] using q)
    · simp only [if_true]
      exact ⟨by omega, filt_lc hi xs _ (fun y m => h y (List.mem_cons_of_mem _ m)) (by simp; omega) (by simpa [hc] using q)⟩
theorem pok_ints {ys : List D} (h : ∀ y ∈ ys, ∃ i, y = .int i ∧ Sz 240 i) : rps 0 ys = true ∧ sms (2 ^ 240) ys = true ∧ rszs ys = 4303 * ys.length := by
  induction ys with
  | nil => simp [rps, sms, rszs]
  | cons y ys ih =>
    obtain ⟨i, rfl, hi⟩ := h y List.mem_cons_self
    obtain ⟨h1, h2, h3⟩ := ih fun z m => h z (List.mem_cons_of_mem _ m)
    refine ⟨by simp [rps, rp, h1], ?_, by simp [rszs, rsz, h3]; omega⟩
    simp only [sms, hi.sm, h2]
    rfl
theorem int_tup {ys : List D} (h : ∀ y ∈ ys, ∃ i, y = .int i ∧ Sz 240 i) (hl : ys.length ≤ 12) : Pok 1 260 60000 (.tup ys) ∧ Pok 1 260 60000 (.lst ys) := by
  obtain ⟨h1, h2, h3⟩ := pok_ints h
  exact ⟨(pok_tup h1 h2).up (by decide) (by decide) (by omega), (pok_lst h1 h2).up (by decide) (by decide) (by omega)⟩
theorem rszs_app : ∀ xs ys : List D, rszs (xs ++ ys) = rszs xs + rszs ys
  | [], ys => by simp [rszs]
  | x :: xs, ys => by simp [rszs, rszs_app xs ys]; omega
theorem rp_nil (n : Nat) (x : Str) (h : PyData.strOk x = true) : rp n (.str x) = true := by cases n <;> simpa [rp] using h
theorem pok_five {a b c d e : Int} (h1 : Sz 300 a) (h2 : Sz 300 b) (h3 : Sz 300 c) (h4 : Sz 300 d) (h5 : Sz 300 e) : Pok 1 300 22000 (.tup [.int a, .int b, .int c, .int d, .int e]) := by
  refine ⟨by simp [rp, rps], ?_, by simp [rsz, rszs]⟩
  simp only [sm, sms, Bool.and_eq_true, decide_eq_true_eq]
  exact ⟨h1, h2, h3, h4, h5, trivial⟩
theorem sz_sm {i : Int} (h1 : -100 ≤ i) (h2 : i ≤ 100) : Sz 300 i := (Sz.small (by omega) (by omega)).mono (by decide)
theorem dir_n {x : D} (h : isDir x = true) : ∃ i, x = .int i ∧ 0 ≤ i ∧ i ≤ 4 := by
  cases x with
  | int i => exact ⟨i, rfl, of_decide_eq_true h⟩
  | _ => cases h
def Szf (n : Nat) (f : Int → Int) : Prop := ∀ i, 0 ≤ i → i ≤ 4 → Sz n (f i)
theorem Szf.rz {n : Nat} {f : Int → Int} {j u : Int} (h : Szf n f) (hn : 20 ≤ n) (h1 : -100 ≤ u) (h2 : u ≤ 100) : Szf (n + 1) (rz f j u) := fun i i0 i4 => by
  unfold ND.rz
  split
  · exact (h _ i0 i4).add ((Sz.small (by omega) (by omega)).mono hn)
  · exact (h _ i0 i4).add ((Sz.small (by omega) (by omega)).mono hn)
section
variable {σ : List SV} {f g h : GE} {fs : GA} {x y : D} {xs ys : List D} {W : WD} {R : Er → Prop} {s s' t : GS} {E : Ed}
theorem Ev.repr (h : Ev σ f x) (hr : Rok x) : Ev σ (gBlt reprB (ND.gCons f ND.gNil)) (.str (toPy x).shown) := ⟨fun Q q => h.run _ (hr.reprB q)⟩
theorem seq_setL {k : Nat} (h : EvA σ fs xs) (hl : xs.length ≤ sizeLine) (q : s E (σ.set k (.ol xs))) : gSeq (gSetL k (gLst fs)) s E σ := h.run _ ⟨hl, q⟩
theorem seq_app {k : Nat} (hk : σ[k]? = some (.ol xs)) (h : Ev σ f x) (hl : xs.length < sizeLine) (q : s E (σ.set k (.ol (xs ++ [x])))) : gSeq (gApp k f) s E σ := ⟨xs, hk, h.run _ ⟨hl, q⟩⟩
theorem Ev.mul2 (h : Ev σ f (.lst xs)) (hl : xs.length * 2 ≤ sizeLine) : Ev σ (gBin mulD f (gC (.int 2))) (.lst (xs ++ (xs ++ []))) := ⟨fun Q q => h.run _ ⟨by decide, by decide, hl, q⟩⟩
theorem Ev.sum {k : Int → Int} (a : Ev σ f (tup5 k)) : Ev σ (gBlt sumD (ND.gCons f ND.gNil)) (.int (sum5 k)) := ⟨fun Q z => a.run _ (sum5_D z)⟩
theorem Ev.ix2 {a b c : D} (k : Ev σ f (.tup [a, b, c])) : Ev σ (gBin ixD f (gC (.int 2))) c := ⟨fun Q z => k.run _ (by simpa using z)⟩
theorem Ev.not {u : Bool} (a : Ev σ f (.bl u)) : Ev σ (gNot f) (.bl (!u)) := ⟨fun Q z => a.run _ (by simpa using z)⟩
theorem Ev.iff {u v : Int} (a : Ev σ f (.int u)) (b : u = v → Ev σ g x) (c : ¬ u = v → Ev σ h x) : Ev σ (gIf (gB (gBin eqD f (gC (.int v)))) g h) x := ⟨fun Q z => a.run _ (by
  simp
  by_cases e : u = v
  · rw [if_pos e]
    exact (b e).run _ z
  · rw [if_neg e]
    exact (c e).run _ z)⟩
theorem seq_ok (a : Ev σ f (.bl true)) (q : t E σ) : gSeq (gIfS (gNotT (gTru f)) s gSkip) t E σ := a.run _ (by simpa using q)
theorem if_ok (a : Ev σ f (.bl true)) (q : E.nx σ) : gIfS (gNotT (gTru f)) s gSkip E σ := a.run _ (by simpa using q)
theorem rok_pair {x y : D} (h1 : Pok 6 300 200000 x) (h2 : Pok 6 300 200000 y) : Rok (.tup [x, y]) := by
  refine Pok.rok (n := 7) (m := 300) (s := 500000) ⟨?_, ?_, ?_⟩ (by decide) (by decide) (by decide) (by simp [toPy, isDct])
  · simp only [rp, rps, Bool.and_eq_true]
    exact ⟨h1.r, h2.r, trivial⟩
  · simp only [sm, sms, Bool.and_eq_true]
    exact ⟨h1.b, h2.b, trivial⟩
  · have := h1.z
    have := h2.z
    simp only [rsz, rszs]
    omega
end
theorem Szf.pok {n : Nat} {f : Int → Int} (h : Szf n f) (hn : n ≤ 300) : Pok 6 300 200000 (tup5 f) :=
  (pok_five ((h 0 (by decide) (by decide)).mono hn) ((h 1 (by decide) (by decide)).mono hn) ((h 2 (by decide) (by decide)).mono hn) ((h 3 (by decide) (by decide)).mono hn) ((h 4 (by decide) (by decide)).mono hn)).up (by decide) (by decide) (by decide)
theorem Szf.rok {n : Nat} {f : Int → Int} (h : Szf n f) (hn : n ≤ 300) : Rok (tup5 f) := (h.pok hn).rok (by decide) (by decide) (by decide) (by simp [tup5, toPy, isDct])
structure EvP (σ : List SV) (f : GE) (P : D → Prop) : Prop where
  run : ∀ Q : D → Prop, (∀ x, P x → Q x) → f σ Q
theorem seq_setT2 {σ : List SV} {f g : GE} {P P' : D → Prop} {i j : Nat} {s : GS} {E : Ed} (h : EvP σ f P) (k : EvP σ g P') (q : ∀ a b, P a → P' b → s E (setAll [i, j] [a, b] σ)) : gSeq (gSetT [i, j] (ND.gTup (ND.gCons f (ND.gCons g ND.gNil)))) s E σ :=
  h.run _ fun a ha => k.run _ fun b hb => ⟨by simp, [a, b], rfl, rfl, q a b ha hb⟩
theorem seq_par3 {σ : List SV} {f g h : GE} {P P' P2 : D → Prop} {i j k : Nat} {s : GS} {E : Ed} (a : EvP σ f P) (b : EvP σ g P') (c : EvP σ h P2) (q : ∀ x y z, P x → P' y → P2 z → s E (setAll [i, j, k] [x, y, z] σ)) : gSeq (gPar [i, j, k] (ND.gCons f (ND.gCons g (ND.gCons h ND.gNil)))) s E σ :=
  a.run _ fun x hx => b.run _ fun y hy => c.run _ fun z hz => ⟨rfl, q x y z hx hy hz⟩
theorem seq_par2 {σ : List SV} {f g : GE} {P P' : D → Prop} {i j : Nat} {s : GS} {E : Ed} (a : EvP σ f P) (b : EvP σ g P') (q : ∀ x y, P x → P' y → s E (setAll [i, j] [x, y] σ)) : gSeq (gPar [i, j] (ND.gCons f (ND.gCons g ND.gNil))) s E σ :=
  a.run _ fun x hx => b.run _ fun y hy => ⟨rfl, q x y hx hy⟩
theorem seq_rng {σ : List SV} {k : Int} {gt : GG} {g s : GS} {E : Ed} (h0 : -(2 ^ 62) ≤ k) (h1 : k < 2 ^ 62) (q : forG gt g (ND.intsFrom 0 k.toNat) { E with nx := s E } σ) : gSeq (gFor (gRng1 (ND.gCons (gC (.int k)) ND.gNil)) gt g) s E σ := ⟨k, rfl, h0, h1, forL_in q⟩
theorem for_two {σ : List SV} {f h : GE} {x y : D} {gt : GG} {g : GS} {E : Ed} (a : Ev σ f x) (b : Ev σ h y) (q : forG gt g [x, y] E σ) : gFor (gIter (ND.gTup (ND.gCons f (ND.gCons h ND.gNil)))) gt g E σ := a.run _ (b.run _ ⟨by simp, forL_in q⟩)
theorem Ev.isn {σ : List SV} {f g h : GE} {k : Int → Int} {x : D} (a : Ev σ f (tup5 k)) (b : Ev σ h x) : Ev σ (gIf (gB (gBin (isD false) f (gC .non))) g h) x := ⟨fun Q q => a.run _ (b.run _ q)⟩
theorem Ev.isy {σ : List SV} {f g h : GE} {x : D} (a : Ev σ f .non) (b : Ev σ g x) : Ev σ (gIf (gB (gBin (isD false) f (gC .non))) g h) x := ⟨fun Q q => a.run _ (b.run _ q)⟩
end ND

/-! ND31: objects of classes of one's own: attributes, isinstance, == by one's own __eq__, makers -/
namespace ND
open PySem PySem.Spec L2
open PyProof.Rows (envOfC)

/-! ### what is known of a class -/
structure ObC (K : Kn) (n : Str) (C : Addr) : Prop where
  mg : K.mg n = some (.ref C)
  cl : Cls K.K C
  ha : PySem.W.findIn K.K (.ref C) "__class__" = some (some (.builtin "object.__class__"))
  hn : PySem.W.specialIn K.K (.builtin "object.__class__") "__get__" = some (some (.builtin "getset_descriptor.__get__"))
  tk : PySem.W.takesIn K.K (.builtin "object.__class__") = some true
  mo : PySem.W.mroIn K.K C (.type "object") = some true
/-- the attributes of instances -/
def FldTab (K : Kn) (fld : Str → Str → Bool) : Prop := ∀ n f, fld n f = true → ∃ C, K.mg n = some (.ref C) ∧ Cls K.K C ∧ NoAttr K.K C f
def tyL : List String := ["NoneType", "bool", "int", "str", "tuple", "list", "dict"]
/-- the classes: isinstance of and against them -/
structure ObTab (K : Kn) (known : Str → Bool) : Prop where
  ob : ∀ n, known n = true → ∃ C, ObC K n C
  bt : ∀ n C, known n = true → K.mg n = some (.ref C) → ∀ t ∈ tyL, PySem.W.kitOne K.K (.type t) (.ref C) = some false
  tb : ∀ n C, known n = true → K.mg n = some (.ref C) → ∀ t ∈ tyL, PySem.W.kitOne K.K (.ref C) (.type t) = some false
  oo : ∀ n m C C', known n = true → known m = true → K.mg n = some (.ref C) → K.mg m = some (.ref C') → PySem.W.kitOne K.K (.ref C) (.ref C') = some (n == m)
  ns : ∀ n C, known n = true → K.mg n = some (.ref C) → ∀ t ∈ tyL, PySem.W.subIn K.K (.type t) (.ref C) = some false
  no : ∀ n m C C', known n = true → known m = true → (n == m) = false → K.mg n = some (.ref C) → K.mg m = some (.ref C') → PySem.W.subIn K.K (.ref C') (.ref C) = some false
theorem RepFs.look {K : Kn} {F : Hp} {f : Str} {x : D} : ∀ {vs : List (Str × V)} {fs : List (Str × D)}, RepFs K F vs fs → fs.lookup f = some x → ∃ v, vs.lookup f = some v ∧ Rep K F v x
  | _, _, .nil, e => by simp at e
  | _, _, .cons (k := k) r t, e => by
    rw [List.lookup_cons] at e ⊢
    cases hk : f == k with
    | true =>
      rw [hk] at e
      cases e
      exact ⟨_, rfl, r⟩
    | false =>
      rw [hk] at e
      exact RepFs.look t e

/-! ### o.f -/
def fldD (fld : Str → Str → Bool) (f : Str) (d : D) (Q : D → Prop) : Prop := ∃ n fs x, d = .obj n fs ∧ fld n f = true ∧ fs.lookup f = some x ∧ Q x
@[simp] theorem fldD_obj (fld : Str → Str → Bool) (f n : Str) (fs : List (Str × D)) (Q : D → Prop) : fldD fld f (.obj n fs) Q ↔ fld n f = true ∧ ∃ x, fs.lookup f = some x ∧ Q x :=
  ⟨fun ⟨_, _, x, e, h1, h2, q⟩ => by cases e; exact ⟨h1, x, h2, q⟩, fun ⟨h1, x, h2, q⟩ => ⟨_, _, x, rfl, h1, h2, q⟩⟩
@[simp] def gFld (fld : Str → Str → Bool) (f : Str) (fa : GE) (σ : List SV) (Q : D → Prop) : Prop := fa σ fun d => fldD fld f d Q
section
variable {B : Bs} {X : Cx} {e : Expr} {f : Str} {pos p p2 p3 : Pos} {fa fb : GE} {fld : Str → Str → Bool} {known : Str → Bool} {n : Str}
theorem ed_fld (T : FldTab X.kn fld) (ha : BD B X e fa) (hb : attributeBase e f X.env (eval e X.env) = eval e X.env := by rfl) : ED B X (.Attribute e f pos) (gFld fld f fa) :=
  ⟨pe_imp (pe_fld ha.run hb) fun s H Q ⟨σ, F, Qd, R, q, k⟩ => ⟨σ, F, _, R, q, fun d ⟨n, fs, x, ed, hf, hl, qx⟩ F1 H1 v g1 d1 r1 => by
    subst ed
    obtain ⟨a, C, dx, vs, hm, rfl, h1, rf⟩ := r1.obj g1.fh
    obtain ⟨C', hm', cl, na⟩ := T n f hf
    have eC : C = C' := Value.ref.inj (Option.some.inj (hm.symm.trans hm'))
    subst eC
    obtain ⟨w, hw, rw_⟩ := rf.look hl
    exact ⟨a, C, dx, vs, w, rfl, h1, cl, na, hw, k x qx F1 H1 w g1 d1 rw_⟩⟩⟩

/-! ### isinstance -/
def isO (n : Str) : D → Bool
  | .obj m _ => m == n
  | _ => false
/-- a value whose type is known -/
def tyX (known : Str → Bool) : D → Bool
  | .obj m _ => known m
  | x => (tyD x).isSome
theorem tyX_ty {x : D} (h : (tyD x).isSome = true) : tyX known x = true := by
  cases x <;> first | exact h | (simp [tyD] at h)
theorem RepB.tyo {W : WT} {K : Kn} {F H : Hp} {v : V} {x : D} (h : RepB W K F H v x) (e : Same F H) (T : ObTab K known) (hx : tyX known x = true) :
    ∃ t, TyX K.K H v t ∧ ((∃ s, tyD x = some s ∧ s ∈ tyL ∧ t = .type s) ∨ ∃ m fs C, x = .obj m fs ∧ known m = true ∧ K.mg m = some (.ref C) ∧ t = .ref C) := by
  by_cases ht : (tyD x).isSome = true
  · obtain ⟨s, hs⟩ := Option.isSome_iff_exists.mp ht
    exact ⟨.type s, h.tyx e hs, .inl ⟨s, hs, tyD_mem hs, rfl⟩⟩
  · cases x with
    | obj m fs =>
      obtain ⟨C, O⟩ := T.ob m hx
      obtain ⟨a, C', dx, vs, hm, rfl, h1, rf⟩ := h.obj e
      have eC : C' = C := Value.ref.inj (Option.some.inj (hm.symm.trans O.mg))
      subst eC
      exact ⟨.ref C', .base (.ins h1 O.cl O.ha O.hn O.tk O.mo), .inr ⟨m, fs, C', rfl, hx, hm, rfl⟩⟩
    | _ => exact absurd hx ht
/-- isinstance(x, n), n a class of one's own -/
@[simp] def gIsO (known : Str → Bool) (n : Str) (fa : GE) (σ : List SV) (Q : D → Prop) : Prop := fa σ fun x => tyX known x = true ∧ Q (.bl (isO n x))
theorem ed_isO (T : ObTab X.kn known) (hk : known n = true) (hg : Gl X "isinstance") (hm : X.mg "isinstance" = none) (gc : Gl X n) (ndb : (n == ("__debug__" : Str)) = false) (ha : BD B X e fa)
    (hst : starEach [e, .Name n p2] X.env = (false, eval e X.env) :: starEach [.Name n p2] X.env := by rfl) (hst2 : starEach [.Name n p2] X.env = [(false, eval (.Name n p2) X.env)] := by rfl)
    (hpl : (backTo pos (starEach [.Name n p2] X.env)).any (·.1) = false := by rfl) : ED B X (.Call (.Name "isinstance" p3) [e, .Name n p2] [] pos) (gIsO known n fa) := by
  obtain ⟨C, O⟩ := T.ob n hk
  have nameC : PE X (.Name n p2) (tC (.ref C)) := pe_glob gc O.mg rfl ndb
  refine ⟨pe_imp (pe_callB call_isi hg hm nbIsi (pa_cons ha.run (pa_cons nameC pa_nil hst2) hst) (by decide) (by decide) hst hpl) fun s H Q ⟨σ, F, Qd, R, q, k⟩ => ?_⟩
  refine ⟨σ, F, _, R, q, fun d ⟨hx, qd⟩ F1 H1 v g1 d1 r1 => ?_⟩
  obtain ⟨t, ty, ht⟩ := r1.tyo g1.fh T hx
  refine ⟨v, .ref C, t, .ref C, isO n d, rfl, .own C, ty, ?_, k _ qd F1 H1 _ g1 d1 (.bl _)⟩
  rcases ht with ⟨z, hz, hm', rfl⟩ | ⟨m, fs, C', rfl, hk', hm', rfl⟩
  · have : isO n d = false := by cases d <;> first | rfl | (simp [tyD] at hz)
    rw [this]
    exact T.bt n C hk O.mg z hm'
  · exact T.oo m n C' C hk' hk hm' O.mg
/-- isinstance with a built-in type, of any value -/
def isiX (known : Str → Bool) : List D → (D → Prop) → Prop
  | [x, .opq (.ty T)], Q => knownT T = true ∧ tyX known x = true ∧ Q (.bl (isiB T x))
  | _, _ => False
theorem c_isiX (T : ObTab X.kn known) : CallR X (.builtin "isinstance") (LCa B X.kn (isiX known)) := callR_by fun vs H Q ⟨F, ds, Qd, e, dk, r, q, k⟩ => by
  unfold isiX at q
  split at q
  · rename_i x S
    obtain ⟨v, u, rfl, r1, r2⟩ := rb2 r
    obtain ⟨h1, h2, h3⟩ := q
    have hu := r2.opq
    subst hu
    have mT : S ∈ ["int", "bool", "str", "tuple", "list", "dict"] := by
      simp only [knownT, Bool.or_eq_true, beq_iff_eq] at h1
      rcases h1 with ((((h | h) | h) | h) | h) | h <;> subst h <;> simp
    obtain ⟨t, ty, ht⟩ := r1.tyo e T h2
    refine ⟨_, call_isi, v, .ty S, t, .type S, isiB S x, rfl, .ty S, ty, ?_, k.here e dk h3 (.bl _)⟩
    rcases ht with ⟨z, hz, hm', rfl⟩ | ⟨m, fs, C', rfl, hk', hm', rfl⟩
    · have : isiB S x = isTb z S := by unfold isiB; rw [hz]
      rw [this]
      exact kit_ty (kitB_all z hm' S mT)
    · refine T.tb m C' hk' hm' S ?_
      simp only [List.mem_cons, List.not_mem_nil, or_false] at mT
      rcases mT with h | h | h | h | h | h <;> subst h <;> simp [tyL]
  · exact q.elim
end
end ND

/-! ND32: == by one's own __eq__; makers -/
namespace ND
open PySem PySem.Spec L2
open PyProof.Rows (envOfC)

/-! ### == -/
def eqX (sps : Str → Option DSp) (W : WD) : D → D → (D → Prop) → Prop
  | .obj n fs, y, Q => ∃ sp, sps n = some sp ∧ sp W [.obj n fs, y] (fun r => isBl r fun b => Q (.bl b)) fun _ => False
  | x, y, Q => eqD x y Q
/-- what of the class n is asked of its own __eq__ -/
structure EqOf (P : Program) (w : World) (K : PySem.W.Frag) (mg : Str → Option Value) (base : Heap) (T : List (Addr × Str)) (k : Nat) (known : Str → Bool) (n : Str) (sp : DSp) : Prop where
  kn : known n = true
  ex : ∃ C f fd ps, mg n = some (.ref C) ∧ PySem.W.findIn K (.ref C) "__eq__" = some (some (.ref f)) ∧ PySem.W.isFn K (.ref f) = true ∧ Binds K fd ps [] ∧ FnOk P w K mg base (L2.CX P w) k f fd ps (liftSp ⟨K, mg⟩ T sp)
  ty : ∀ W x y Q R, sp W [x, y] Q R → tyX known y = true
/-- an operation on data -/
def LO2E (B : Bs) (K : Kn) (g : D → D → (D → Prop) → Prop) : R2 := fun v u H Q => ∃ F x y Qd, Same F H ∧ DeckIn B.W F H ∧ Rep K F v x ∧ Rep K F u y ∧ g x y Qd ∧ Fin B K F H Qd Q
section
variable {B : Bs} {X : Cx} {known : Str → Bool} {k : Nat} {a b : Expr} {fa fb : GE} {g : D → D → (D → Prop) → Prop} {pos : Pos}
theorem lo2e_of {K : Kn} {s : L2.St} {σ : List SV} {F H : Hp} {Qd : D → Prop} {Q : VK} (R : Rel B K σ s F H) (q : gBin g fa fb σ Qd) (k : Fin B K F H Qd Q) : tOp (LO2E B K g) (LE B K fa) (LE B K fb) s H Q :=
  ⟨σ, F, _, R, q, fun x qx F1 H1 v g1 d1 r1 => ⟨σ, F1, _, R.grow g1 d1, qx, fun y qy F2 H2 u g2 d2 r2 => ⟨F2, x, y, Qd, g2.fh, d2, r1.mono g2.ff, r2, qy, k.more (g1.trans g2)⟩⟩⟩
theorem ed_cmpE {op : CmpOp} (ho : OpR X (compareOp op) (LO2E B X.kn g)) (ha : ED B X a fa) (hb : ED B X b fb) (hm : behindInMarks op b = false) : ED B X (.Compare a [op] [b] pos) (gBin g fa fb) :=
  ⟨pe_imp (pe_cmpR ho ha.run hb.run hm) fun s H Q ⟨σ, F, Qd, R, q, k⟩ => lo2e_of R q k⟩
theorem o_eqX {sps : Str → Option DSp} (T : ObTab X.kn known) (hs : ∀ n sp, sps n = some sp → EqOf X.prog X.w X.K X.mg X.base B.W.T k known n sp) (hr : Room k X.A) (hu : X.A.units + 64 < cLine) (hx : Passes (L2.CX X.prog X.w) X (fun _ _ _ => False)) : OpR X (compareOp .Eq) (LO2E B X.kn (eqX sps B.W.p)) := by
  intro pins s σ H x y v u Q I rx ry ⟨F, dx, dy, Qd, e, dk, r1, r2, q, kf⟩
  by_cases ho : ∃ n fs, dx = .obj n fs
  · obtain ⟨n, fs, rfl⟩ := ho
    obtain ⟨sp, h1, q⟩ := q
    have S := hs n sp h1
    obtain ⟨C, f, fd, ps, hm, hq, hf, hb, G⟩ := S.ex
    have R1 := r1
    cases r1 with
    | @obj a C' dxx _ vs _ hm' hF rf =>
    have eC : C' = C := Value.ref.inj (Option.some.inj (hm'.symm.trans hm))
    subst eC
    cases rx
    have ha : H a = some (.ins C' dxx vs) := e _ _ hF
    have rb : RepB B.W X.kn F H y dy := .inl r2
    obtain ⟨t, ty, ht⟩ := rb.tyo e T (S.ty _ _ _ _ _ q)
    obtain ⟨P, Z, p, _⟩ := kit_of I ry ty
    obtain ⟨mA, J, _⟩ := ins_get I.hok ha
    obtain ⟨od, J, _⟩ := J.look
    obtain ⟨m, hF⟩ := I.fr
    have nf : PySem.W.notFirst X.K C' t = true := by
      unfold PySem.W.notFirst
      rcases ht with ⟨z, hz, hm2, rfl⟩ | ⟨m2, fs2, C2, rfl, hk2, hm2, rfl⟩
      · rw [T.ns n C' S.kn hm z hm2]
        simp
      · by_cases en : (n == m2) = true
        · have : n = m2 := beq_iff_eq.mp en
          subst this
          have eC : C2 = C' := Value.ref.inj (Option.some.inj (hm2.symm.trans hm))
          subst eC
          simp
        · rw [T.no n m2 C' C2 S.kn hk2 (Bool.eq_false_iff.mpr en) hm hm2]
          simp
    show wpAny (model X.prog X.w) X.A (richCompare .Eq (.ref a) u) (EP X pins σ Q) X.xe s
    refine PySem.W.cmp_K (op := .Eq) (tb := t) (by omega) hF I.ok.mod.kin J (Z.ty _ _ I.kIn p) nf hq hf ?_
    have want : liftSp X.kn B.W.T sp ([.ref a, y] ++ []) H (fun z H' => (∃ b, z = .bl b) ∧ Q z H') (fun _ _ _ => False) :=
      ⟨B.W.p, F, [.obj n fs, dy], _, fun _ => False, e, dk, by rw [List.append_nil]; exact .cons R1 (.cons r2 .nil), q, fun d qd0 F' H' z g' dk' r' => by
        obtain ⟨b, ed, qd⟩ := isBl_ex qd0
        subst ed
        cases r'
        exact ⟨⟨b, rfl⟩, kf _ qd F' H' _ g' dk' (.bl b)⟩, fun _ z => z.elim⟩
    refine wpAny_mono (run_fn (us := [.ref a, u]) (vs := [.ref a, y]) G hr hb .nil hx I (.cons rfl (.cons ry .nil)) want) (fun z s' hz => ?_) fun _ _ z => z
    obtain ⟨v', H', I', rv, ⟨b, eb⟩, qz⟩ := hz
    subst eb
    cases rv
    exact ⟨.bl b, H', I', rfl, qz⟩
  · have q' : eqD dx dy Qd := by
      cases dx <;> first | exact q | exact absurd ⟨_, _, rfl⟩ ho
    exact o_eq hu pins s σ H x y v u Q I rx ry ⟨F, dx, dy, Qd, e, dk, .inl r1, .inl r2, q', kf⟩
end

/-! ### makers -/
/-- what __init__ promises: sp's answer is the object itself -/
def liftInit (K : Kn) (T : List (Addr × Str)) (C : Addr) (sp : DSp) : Sp := fun vs H Q E => ∃ (x dx : Addr) (H0 : Hp) (us : List V) (W : WD) (F : Hp) (ds : List D) (Qd : D → Prop) (Rd : Er → Prop),
  vs = .ref x :: us ∧ H0 x = none ∧ H0 dx = none ∧ dx ≠ x ∧ H = upd (upd H0 dx (.own x)) x (.ins C dx []) ∧ Same F H0 ∧ DeckIn ⟨W, T⟩ F H0 ∧ Reps K F us ds ∧ sp W ds Qd Rd ∧
  (∀ d, Qd d → ∀ F' H', Grow ⟨W, T⟩ F H0 F' H' → DeckIn ⟨W, T⟩ F' H' → Rep K F' (.ref x) d → Q .non H') ∧ FinE ⟨W, T⟩ K F H0 Rd E
def startI (N : Nat) (x : Addr) (n : Str) (ds : List D) : List SV := .oo x n [] :: startD (N - 1) ds
/-- behind __init__'s body -/
@[simp] def endsI (x : Addr) (n : Str) (Q : D → Prop) : Ed := { nx := fun σ => ∃ fs, σ[0]? = some (.oo x n fs) ∧ Q (.obj n fs), rt := fun _ => False, bk := fun _ => False, ct := fun _ => False }
def putFD (f : Str) (v : D) : List (Str × D) → List (Str × D)
  | [] => [(f, v)]
  | (g, x) :: r => if g = f then (g, v) :: r else (g, x) :: putFD f v r
theorem RepFs.put {K : Kn} {F : Hp} {f : Str} {y : V} {d : D} (r : Rep K F y d) : ∀ {vs : List (Str × V)} {fs : List (Str × D)}, RepFs K F vs fs → RepFs K F (L2.putF f y vs) (putFD f d fs)
  | _, _, .nil => .cons r .nil
  | _, _, .cons (k := k) r' t => by
    unfold L2.putF putFD
    by_cases h : k = f
    · rw [if_pos h, if_pos h]
      exact .cons r t
    · rw [if_neg h, if_neg h]
      exact .cons r' (RepFs.put r t)
theorem RepFs.length {K : Kn} {F : Hp} : ∀ {vs : List (Str × V)} {fs : List (Str × D)}, RepFs K F vs fs → vs.length = fs.length
  | _, _, .nil => rfl
  | _, _, .cons _ t => by rw [List.length_cons, List.length_cons, RepFs.length t]
/-- self.f = e -/
def gSetF (fld : Str → Str → Bool) (k : Nat) (f : Str) (fe : GE) : GS := fun E σ => ∃ x n fs, σ[k]? = some (.oo x n fs) ∧ fld n f = true ∧ fs.length < 1000 ∧ fe σ fun d => E.nx (σ.set k (.oo x n (putFD f d fs)))
section
variable {B : Bs} {X : Cx} {fld : Str → Str → Bool} {o value : Expr} {f : Str} {pos pos' : Pos} {fe : GE} {k : Nat}
theorem sd_setF (T : FldTab X.kn fld) (ho : PE X o (tVar k)) (hv : ED B X value fe) (hs : swapsWith value (some (.Attribute o f pos')) pos.line X.env = pure false := by rfl) : SD B X (.Assign [.Attribute o f pos'] value pos) (gSetF fld k f fe) :=
  ⟨ps_imp (ps_fld ho hv.run hs) fun Dn s H ⟨σ, F, E, R, ⟨x, n, fs, e, hf, hl, q⟩, kk⟩ => by
    obtain ⟨C, dx, vs, h1, hm, h2, h3, h4, h5, h6⟩ := R.ownO e
    refine ⟨σ, F, _, R, q, fun d qd F1 H1 v g1 d1 r1 => ?_⟩
    have R1 := R.grow g1 d1
    obtain ⟨C1, dx1, vs1, k1, km, k2, k3, k4, k5, k6⟩ := R1.ownO e
    obtain ⟨C', hm', cl, na⟩ := T n f hf
    have eC : C1 = C' := Value.ref.inj (Option.some.inj (km.symm.trans hm'))
    subst eC
    refine ⟨.ref x, k1, x, C1, dx1, vs1, rfl, k2, cl, na, by rw [k3.length]; exact hl, ?_⟩
    exact kk.nx _ _ F1 _ g1.ff (R1.write e (.inr (.inr ⟨_, _, _, rfl⟩)) k1 (x := .oo x n (putFD f d fs)) ⟨rfl, rfl, C1, dx1, _, km, upd_same, k3.put r1⟩) qd⟩
end
theorem rel_startI {W : WT} {K : Kn} {F H0 : Hp} {N : List Str} {vs : List V} {ds : List D} {x dx C : Addr} {n : Str} (e : Same F H0) (dk : DeckIn W F H0) (r : Reps K F vs ds) (hn : 0 < N.length) (hx : H0 x = none) (hdx : H0 dx = none) (ne : dx ≠ x) (hm : K.mg n = some (.ref C)) :
    Rel ⟨W, F, H0⟩ K (startI N.length x n ds) (L2.start N (.ref x :: vs)) F (upd (upd H0 dx (.own x)) x (.ins C dx [])) := by
  have hx2 : upd H0 dx (.own x) x = none := by rw [upd_ne (Ne.symm ne)]; exact hx
  have g1 : Grow W F H0 F (upd H0 dx (.own x)) := Grow.laid e hdx
  have d1 : DeckIn W F (upd H0 dx (.own x)) := dk.laid hdx
  have g2 : Grow W F (upd H0 dx (.own x)) F (upd (upd H0 dx (.own x)) x (.ins C dx [])) := Grow.laid g1.fh hx2
  have d2 : DeckIn W F (upd (upd H0 dx (.own x)) x (.ins C dx [])) := d1.laid hx2
  refine ⟨g1.trans g2, dk, d2, ?_, fun i => if i = 0 then some x else none, ⟨fun i j a e1 e2 => ?_, fun i a z => ?_⟩, fun i y v e1 e2 => ?_⟩
  · unfold startI startD L2.start
    simp [r.length]
    omega
  · split at e1 <;> split at e2 <;> first | (cases e1; done) | (cases e2; done) | (subst_vars; rfl)
  · split at z
    · cases z
      exact ⟨hx, e.free hx⟩
    · cases z
  · cases i with
    | zero =>
      simp [startI] at e1
      simp [L2.start] at e2
      subst e1 e2
      exact ⟨rfl, rfl, C, dx, [], hm, upd_same, .nil⟩
    | succ i =>
      simp only [Nat.add_one_ne_zero, if_false]
      unfold startI startD at e1
      unfold L2.start at e2
      rw [List.getElem?_cons_succ] at e1
      have e2' : (vs.map some ++ List.replicate (N.length - (vs.length + 1)) none)[i]? = some v := by simpa using e2
      by_cases hi : i < ds.length
      · rw [List.getElem?_append_left (by simpa using hi)] at e1
        rw [List.getElem?_append_left (by simpa [r.length] using hi)] at e2'
        rw [List.getElem?_map] at e1 e2'
        cases ed : ds[i]? with
        | none =>
          rw [ed] at e1
          cases e1
        | some d =>
          rw [ed] at e1
          obtain ⟨u, h1, h2⟩ := r.get ed
          rw [h1] at e2'
          cases e1
          cases e2'
          exact h2
      · rw [List.getElem?_append_right (by simpa using hi)] at e1
        rw [List.getElem?_append_right (by simpa [r.length] using hi)] at e2'
        have h1 := List.eq_of_mem_replicate (List.mem_of_getElem? e1)
        have h2 := List.eq_of_mem_replicate (List.mem_of_getElem? e2')
        subst h1 h2
        exact True.intro
section
variable {P : Program} {w : World} {K : PySem.W.Frag} {mg : Str → Option Value} {base : Heap} {n qual : Str} {st : Stmt} {f C : Addr} {fd : FuncData} {N ps : List Str} {k : Nat} {sp : DSp} {g : WD → (Er → Prop) → GS} {T : List (Addr × Str)} {dvs : List V}
theorem okInit (hm : mg n = some (.ref C)) (F : FunD K "__init__" qual (defArgs st) (defBody st) (defScope st) dvs [] f fd) (S : FnScope N ("self" :: ps) (defScope st)) (hN : 0 < N.length) (hlen : ∀ W ds Q R, sp W ds Q R → ds.length = ps.length)
    (body : ∀ (cdv : Value) (A : Around) (outer : List Env) (s : Shared) (H : Hp) (E : XK) (W : WD) (F H0 : Hp) (R : Er → Prop), Room k (A.deeper (envOfC qual (defScope st) s.heap.objs.size f cdv)) → FinE ⟨W, T⟩ ⟨K, mg⟩ F H0 R E →
      PassesOwn (model P w) (cxD P w K mg base N qual st f cdv A outer s H E).A (cxD P w K mg base N qual st f cdv A outer s H E).env (cxD P w K mg base N qual st f cdv A outer s H E).xe →
      Passes (L2.CX P w) (cxD P w K mg base N qual st f cdv A outer s H E) E → SDs ⟨⟨W, T⟩, F, H0⟩ (cxD P w K mg base N qual st f cdv A outer s H E) (defBody st) (g W R))
    (law : ∀ W ds Q R x, sp W ds Q R → g W R (endsI x n Q) (startI N.length x n ds)) : FnOk P w K mg base (L2.CX P w) (k + 1) f fd ("self" :: ps) (liftInit ⟨K, mg⟩ T C sp) := by
  refine F.ok S (fun vs H Q E ⟨x, dx, H0, us, W, F, ds, Qd, Rd, e1, h1, h2, h3, h4, h5, h6, h7, h8, _⟩ => ?_) fun cdv A outer s H vs Q E hr ⟨x, dx, H0, us, W, F, ds, Qd, Rd, e1, h1, h2, h3, h4, h5, h6, h7, h8, h9, h10⟩ => ?_
  · rw [e1, List.length_cons, List.length_cons, h7.length, hlen _ _ _ _ h8]
  · subst e1 h4
    have hb := body cdv A outer s (upd (upd H0 dx (.own x)) x (.ins C dx [])) E W F H0 Rd hr h10 (passes_of rfl) (passes_call (takes_of rfl rfl rfl rfl) fun _ _ _ _ z => z)
    refine ⟨_, hb.run, startI N.length x n ds, F, endsI x n Qd, rel_startI h5 h6 h7 hN h1 h2 h3 hm, law W ds Qd Rd x h8, ?_⟩
    refine ⟨fun σ s F' H' _ R' ⟨fs, z, qd⟩ => ?_, fun _ _ _ _ _ _ _ z => z.elim, fun _ _ _ _ _ _ z => z.elim, fun _ _ _ _ _ _ z => z.elim⟩
    obtain ⟨C', dx', vs, k1, km, k2, k3, k4, k5, k6⟩ := R'.ownO z
    have g := R'.base.freeze h1 k5 k2
    exact h9 _ qd _ _ g (h6.freeze R'.deck h1) (.obj km upd_same (k3.mono (same_new k5)))
end

/-- n(..) makes an object, and keeps sp -/
structure OkM (P : Program) (w : World) (K : PySem.W.Frag) (mg : Str → Option Value) (base : Heap) (T : List (Addr × Str)) (n qual : Str) (st : Stmt) (k : Nat) (ps : List Str) (dfl : List D) (sp : DSp) : Prop where
  ex : ∃ C f fd dvs, mg n = some (.ref C) ∧ Mk K C f ∧ FunD K "__init__" qual (defArgs st) (defBody st) (defScope st) dvs [] f fd ∧ dvs ≠ [] ∧ (∀ F, Reps ⟨K, mg⟩ F dvs dfl) ∧ FnOk P w K mg base (L2.CX P w) k f fd ("self" :: ps) (liftInit ⟨K, mg⟩ T C sp)
/-- the positional values, the defaults, the keywords' values, in the order pm -/
def perm3 {α : Type} (n d m : Nat) (pm : List Nat) (us its ws : List α) : List α := if us.length = n ∧ its.length = d ∧ ws.length = m then pm.filterMap fun i => (us ++ (its ++ ws))[i]? else []
theorem perm3_self {α : Type} {n d m : Nat} {pm : List Nat} {x : α} {us its ws : List α} (h1 : us.length = n) (h2 : its.length = d) (h3 : ws.length = m) : perm3 (n + 1) d m (0 :: pm.map (· + 1)) (x :: us) its ws = x :: perm3 n d m pm us its ws := by
  unfold perm3
  rw [if_pos ⟨by rw [List.length_cons, h1], h2, h3⟩, if_pos ⟨h1, h2, h3⟩]
  simp [List.filterMap_map, Function.comp_def]
theorem paired_perm3 {α β : Type} {R : α → β → Prop} {n d m : Nat} {pm : List Nat} {us its ws : List α} {us' its' ws' : List β} (h : Paired R us us') (h2 : Paired R its its') (h3 : Paired R ws ws') : Paired R (perm3 n d m pm us its ws) (perm3 n d m pm us' its' ws') := by
  unfold perm3
  rw [paired_len h, paired_len h2, paired_len h3]
  split
  · exact paired_pick (paired_app h (paired_app h2 h3)) pm
  · exact .nil
abbrev BindsM (qual : Str) (st : Stmt) (ps : List Str) (n d : Nat) (ks : List Str) (pm : List Nat) : Prop := ∀ (T : Addr) (kV doc pmv : Value) (an : Option Addr) (cdv ct : Value) (us its ws : List Value), us.length = n + 1 → its.length = d → ws.length = ks.length →
  ∃ k, bindArgs (PySem.W.fnOf "__init__" qual (defArgs st) (defBody st) (defScope st) (.ref T) kV doc pmv an cdv ct) ⟨us, ks.zip ws⟩ = seqItems? (.ref T) >>= k ∧ k (some its.toArray) = pure (((("self" : Str) :: ps) : List Str).zip (perm3 (n + 1) d ks.length (0 :: pm.map (· + 1)) us its ws))
@[simp] def gMake (sp : DSp) (dfl : List D) (n m : Nat) (pm : List Nat) (W : WD) (R : Er → Prop) (fs fk : GA) (σ : List SV) (Q : D → Prop) : Prop := fs σ fun us => fk σ fun ws => us.length = n ∧ ws.length = m ∧ sp W (perm3 n dfl.length m pm us dfl ws) Q R
section
variable {B : Bs} {X : Cx} {k n m : Nat} {ps ks : List Str} {dfl : List D} {sp : DSp} {R : Er → Prop} {E : XK} {x qual : Str} {st : Stmt} {p pos : Pos} {e : Expr} {es : List Expr} {kws : List Keyword} {fs fk : GA} {pm : List Nat}
theorem kbn_of {K : PySem.W.Frag} {f : Addr} {fd : FuncData} {dvs : List V} (F : FunD K "__init__" qual (defArgs st) (defBody st) (defScope st) dvs [] f fd) (hd : dvs ≠ []) (b : BindsM qual st ps n dvs.length ks pm) :
    ∃ its : List Value, KBn K fd ("self" :: ps) (n + 1) ks (fun us ws => perm3 (n + 1) dvs.length ks.length (0 :: pm.map (· + 1)) us its ws) (fun vs zs => perm3 (n + 1) dvs.length ks.length (0 :: pm.map (· + 1)) vs dvs zs) :=
  F.kbindsD (n + 1) ks (fun {α} us its ws => perm3 (n + 1) dvs.length ks.length (0 :: pm.map (· + 1)) us its ws) hd (fun r1 r2 r3 => paired_perm3 r1 r2 r3) b
theorem la_make {K : Kn} {C : Addr} {dvs : List V} {s : L2.St} {σ : List SV} {F H : Hp} {Qd : D → Prop} {Q : VK} (hE : FinE B.W K B.F B.H R E) (hd : ∀ F, Reps K F dvs dfl) (hk : ks.length = m) (Rl : Rel B K σ s F H) (q : gMake sp dfl n m pm B.W.p R fs fk σ Qd) (kf : Fin B K F H Qd Q) :
    tMakeN C n ks.length (liftInit K B.W.T C sp) (fun vs zs => perm3 (n + 1) dvs.length ks.length (0 :: pm.map (· + 1)) vs dvs zs) E (LA B K fs) (LA B K fk) s H Q :=
  ⟨σ, F, _, Rl, q, fun us qus F1 H1 vs g1 d1 r1 => ⟨σ, F1, _, Rl.grow g1 d1, qus, fun ws ⟨l1, l2, qws⟩ F2 H2 zs g2 d2 r2 => by
    have e1 : vs.length = n := r1.length.trans l1
    have e2 : zs.length = ks.length := (r2.length.trans l2).trans hk.symm
    have e3 : dvs.length = dfl.length := (hd F).length
    refine ⟨e1, e2, fun x dx h1 h2 h3 => ?_⟩
    show liftInit K B.W.T C sp (perm3 (n + 1) dvs.length ks.length (0 :: pm.map (· + 1)) (V.ref x :: vs) dvs zs) _ _ E
    rw [perm3_self e1 rfl e2]
    have rr : Reps K F2 (perm3 n dvs.length ks.length pm vs dvs zs) (perm3 n dfl.length m pm us dfl ws) := by
      rw [e3, hk]
      exact Reps.of_pair (paired_perm3 (r1.mono g2.ff).pair (hd F2).pair r2.pair)
    exact ⟨x, dx, H2, _, B.W.p, F2, _, Qd, R, rfl, h1, h2, h3, rfl, g2.fh, d2, rr, qws, fun d qd F3 H3 g3 d3 r3 => ⟨rfl, kf d qd F3 H3 _ ((g1.trans g2).trans g3) d3 r3⟩, hE.more ((Rl.base.trans g1).trans g2)⟩⟩⟩
theorem ed_make (O : OkM X.prog X.w X.K X.mg X.base B.W.T x qual st k ps dfl sp) (hk : ks.length = m) (b : BindsM qual st ps n dfl.length ks pm) (hr : Room (k + 1) X.A) (hx : Passes (L2.CX X.prog X.w) X E) (hE : FinE B.W X.kn B.F B.H R E) (ha : AD B X (e :: es) fs) (hkw : KD B X kws fk) (hg : Gl X x := by rfl)
    (hall : (backToKw pos (keywordEach kws X.env)).all (·.1.isSome) = true := by rfl) (hks : (backToKw pos (keywordEach kws X.env)).filterMap (·.1) = ks := by rfl)
    (hdb : (x == ("__debug__" : Str)) = false := by decide) (he : starEach (e :: es) X.env = (false, eval e X.env) :: starEach es X.env := by rfl)
    (hpl : ((backTo pos (starEach (e :: es) X.env)).any (·.1) || (backToKw pos (keywordEach kws X.env)).any (·.1.isNone)) = false := by rfl) : ED B X (.Call (.Name x p) (e :: es) kws pos) (gMake sp dfl n m pm B.W.p R fs fk) := by
  obtain ⟨C, f, fd, dvs, hm, M, F, hd, hD, G⟩ := O.ex
  have el : dvs.length = dfl.length := (hD B.F).length
  rw [← el] at b
  obtain ⟨its, kb⟩ := kbn_of F hd b
  exact ⟨pe_imp (pe_makeN M G hr hg hm kb hx ha.run hkw.run hall hks hdb he hpl) fun s H Q ⟨σ, F, Qd, Rl, q, kf⟩ => la_make hE hD hk Rl q kf⟩
end
end ND

/-! ND33: sorted of tuples of integers; constants of the module -/
namespace ND
open PySem PySem.Spec L2
open PyProof.Rows (envOfC)

/-! ### the order of lists of integers -/
def lexI : List Int → List Int → Bool
  | x :: xs, y :: ys => if x = y then lexI xs ys else decide (x < y)
  | [], _ :: _ => true
  | _, [] => false
theorem lexI_asym : ∀ {xs ys : List Int}, lexI xs ys = true → lexI ys xs = false
  | [], [], h => by simp [lexI] at h
  | [], _ :: _, _ => by simp [lexI]
  | _ :: _, [], h => by simp [lexI] at h
  | x :: xs, y :: ys, h => by
    unfold lexI at h ⊢
    by_cases e : x = y
    · rw [if_pos e] at h
      rw [if_pos e.symm]
      exact lexI_asym h
    · rw [if_neg e] at h
      rw [if_neg (fun z => e z.symm)]
      have := of_decide_eq_true h
      exact decide_eq_false (by omega)
theorem lexI_tot : ∀ {xs ys : List Int}, lexI xs ys = false → lexI ys xs = false → xs = ys
  | [], [], _, _ => rfl
  | [], _ :: _, h, _ => by simp [lexI] at h
  | _ :: _, [], _, h => by simp [lexI] at h
  | x :: xs, y :: ys, h, h' => by
    unfold lexI at h h'
    by_cases e : x = y
    · rw [if_pos e] at h
      rw [if_pos e.symm] at h'
      rw [e, lexI_tot h h']
    · rw [if_neg e] at h
      rw [if_neg (fun z => e z.symm)] at h'
      have := of_decide_eq_false h
      have := of_decide_eq_false h'
      omega
theorem lexI_tr : ∀ {xs ys zs : List Int}, lexI ys xs = false → lexI zs ys = false → lexI zs xs = false
  | [], ys, zs, h1, h2 => by
    cases zs with
    | nil => simp [lexI]
    | cons z zs => simp [lexI]
  | x :: xs, [], zs, h1, h2 => by simp [lexI] at h1
  | x :: xs, y :: ys, [], h1, h2 => by simp [lexI] at h2
  | x :: xs, y :: ys, z :: zs, h1, h2 => by
    unfold lexI at h1 h2 ⊢
    by_cases e1 : y = x
    · rw [if_pos e1] at h1
      by_cases e2 : z = y
      · rw [if_pos e2] at h2
        rw [if_pos (e2.trans e1)]
        exact lexI_tr h1 h2
      · rw [if_neg e2] at h2
        rw [if_neg (fun e => e2 (e.trans e1.symm))]
        have := of_decide_eq_false h2
        exact decide_eq_false (by omega)
    · rw [if_neg e1] at h1
      have a1 := of_decide_eq_false h1
      by_cases e2 : z = y
      · rw [if_neg (fun e => e1 (e2.symm.trans e))]
        exact decide_eq_false (by omega)
      · rw [if_neg e2] at h2
        have a2 := of_decide_eq_false h2
        rw [if_neg (by omega)]
        exact decide_eq_false (by omega)
theorem swo_lexI {α : Type} (k : α → List Int) : SrtO.Swo fun v u => lexI (k v) (k u) := ⟨fun _ _ h => lexI_asym h, fun _ _ _ h1 h2 => lexI_tr h1 h2⟩

section
variable {prog : Program} {w : World} {A : Around} {E : Value → Shared → Prop} {s : Shared} {Q : Bool → Shared → Prop}
theorem lex_intsI {b : Bool} {xs ys : List Value} {ns ms : List Int} (i : Nat) (hx : PyProof.Rows.IntsAre xs ns) (hy : PyProof.Rows.IntsAre ys ms) (hl : ns.length = ms.length)
    (h : Q (lexI ns ms) s) : PySem.W.KatLex prog w A b false Q (xs.zip ys) i s := by
  induction hx generalizing ys ms i with
  | nil =>
    cases hy with
    | nil => exact PySem.W.kat_nil h
    | cons q u hy => simp at hl
  | @cons p t xs ns hx ih =>
    cases hy with
    | nil => simp at hl
    | @cons q u ys ms hy =>
      have hl' : ns.length = ms.length := by simpa using hl
      show PySem.W.KatLex prog w A b false Q ((Value.int p t, Value.int q u) :: xs.zip ys) i s
      refine PySem.W.kat_cons (wpAny_eqBool_int ?_)
      unfold lexI at h
      by_cases e : p = q
      · subst e
        rw [beq_self_eq_true]
        rw [if_pos rfl] at h
        refine PySem.W.kat_yes ?_
        first
          | exact ih (i + 1) hy hl' h
          | exact ih _ _ (i + 1) hy hl' h
      · rw [show (p == q) = false from beq_eq_false_iff_ne.mpr e]
        rw [if_neg e] at h
        exact PySem.W.kat_no (_root_.TS.oneLt_ints _ h)
/-- tuples of d integers each -/
def TupsI (h : Heap) (d : Nat) (vs : List Value) : Prop := ∀ v, v ∈ vs → ∃ ns, _root_.TS.TupInts h v ns ∧ ns.length = d
theorem firstsI {h : Heap} {d : Nat} (hd : 1 ≤ d) : ∀ vs : List Value, TupsI h d vs → ∃ fs, PySem.W.KatTups h vs fs ∧ fs.length = vs.length ∧ ∀ f, f ∈ fs → ∃ n t, f = Value.int n t
  | [], _ => ⟨[], PySem.W.KatTups.nil, rfl, fun f hf => by simp at hf⟩
  | v :: vs, x => by
    obtain ⟨fs, k, hl, hi⟩ := firstsI hd vs fun u hu => x u (List.mem_cons_of_mem _ hu)
    obtain ⟨ns, ⟨a, xs, rfl, ⟨o, ho, hc, n, hdt⟩, i⟩, hn⟩ := x v (List.mem_cons_self ..)
    obtain ⟨y, ys, e⟩ : ∃ y ys, xs.toList = y :: ys := by
      cases q : xs.toList with
      | nil =>
        rw [q] at i
        have l := i.length
        rw [List.length_nil, hn] at l
        omega
      | cons y ys => exact ⟨y, ys, rfl⟩
    obtain ⟨m, t, hy⟩ := i.all y (by rw [e]; exact List.mem_cons_self ..)
    refine ⟨y :: fs, PySem.W.KatTups.cons ho hc hdt ?_ k, by simp [hl], ?_⟩
    · have z := congrArg (fun l : List Value => l[0]?) e
      simpa using z
    · intro f hf
      rcases List.mem_cons.mp hf with rfl | hf
      · exact ⟨m, t, hy⟩
      · exact hi f hf
theorem sortableI {a : Addr} {vs : List Value} {d : Nat} (hd : 1 ≤ d) (h0 : 0 < vs.length) (hp : TupsI s.heap d vs) (k : Value → List Int) (hk : ∀ v ∈ vs, ∀ ns, _root_.TS.TupInts s.heap v ns → k v = ns) (ha : ∀ o, s.heap.get? a = some o → o.cls ≠ .type "tuple") : SrtO.SortableO prog w A s a vs fun v u => lexI (k v) (k u) := by
  intro h' keep
  have kp : ∀ b o, s.heap.get? b = some o → o.cls = .type "tuple" → h'.get? b = some o := fun b o e c => keep b o (fun z => by subst z; exact ha o e c) e
  have hp' : TupsI h' d vs := fun v hv => let ⟨ns, t, r⟩ := hp v hv; ⟨ns, t.keeps kp, r⟩
  obtain ⟨fs, h1, h2, h3⟩ := firstsI hd vs hp'
  refine ⟨PyProof.Rows.tuples' true, fun Q E hq => ?_, fun p q hm hm' => ?_⟩
  · refine PySem.W.kat_kind (T := .type "int") h1 (by omega) (fun f hm => ?_) (by rfl) ?_
    · obtain ⟨x, t, rfl⟩ := h3 f hm
      exact PySem.W.Looks.now
    · have e : (Value.type "int" != Value.type "tuple") = true := by first | decide +kernel | rfl | decide
      rw [e]
      exact hq
  · obtain ⟨ns, tp, lp⟩ := hp _ hm
    obtain ⟨ms, tq, lq⟩ := hp _ hm'
    show wpAny (model prog w) A (PyProof.Rows.keyLt' (PyProof.Rows.tuples' true) p.1 q.1) (fun r s' => s' = { s with heap := h' } ∧ r = lexI (k p.1) (k q.1)) (fun _ _ => False) { s with heap := h' }
    rw [hk _ hm _ tp, hk _ hm' _ tq]
    obtain ⟨a1, xs, e1, ⟨o, ho, hc, n, hdt⟩, i⟩ := tp.keeps kp
    obtain ⟨a2, ys, e2, ⟨o', ho', hc', n', hdt'⟩, i'⟩ := tq.keeps kp
    rw [e1, e2]
    refine PySem.W.kat_lt ho hdt ho' hdt' ?_
    have sz : decide (xs.size < ys.size) = false := by
      have l1 := i.length
      have l2 := i'.length
      rw [Array.length_toList] at l1 l2
      exact decide_eq_false (by omega)
    rw [sz]
    exact lex_intsI 0 i i' (by omega) ⟨rfl, rfl⟩
end

/-! ### sorted(xs), xs a list of tuples of d integers each -/
theorem perm_reps {K : Kn} {F : Hp} {ys xs : List V} (p : ys.Perm xs) : ∀ {ds : List D}, Reps K F xs ds → ∃ es : List D, es.Perm ds ∧ Reps K F ys es := by
  induction p with
  | nil =>
    intro ds r
    cases r
    exact ⟨[], .refl _, .nil⟩
  | cons x _ ih =>
    intro ds r
    cases r with
    | cons r t =>
      obtain ⟨es, pe, re⟩ := ih t
      exact ⟨_ :: es, pe.cons _, .cons r re⟩
  | swap x y l =>
    intro ds r
    cases r with
    | cons r t =>
      cases t with
      | cons r2 t => exact ⟨_, List.Perm.swap _ _ _, .cons r2 (.cons r t)⟩
  | trans _ _ ih1 ih2 =>
    intro ds r
    obtain ⟨es, pe, re⟩ := ih2 r
    obtain ⟨es', pe', re'⟩ := ih1 re
    exact ⟨es', pe'.trans pe, re'⟩
def TupV (K : PySem.W.Frag) (H : Hp) (x : V) (ns : List Int) : Prop := ∃ t, x = .ref t ∧ SqT K H t (ns.map V.int)
def rSortV (K : PySem.W.Frag) : List V → Hp → VK → Prop := fun vs H Q => ∃ (a : Addr) (xs : List V) (d : Nat), vs = [V.ref a] ∧ SqL K H a xs ∧ 1 ≤ d ∧ (∀ x ∈ xs, ∃ ns, TupV K H x ns ∧ ns.length = d) ∧
  ∀ (ys : List V) (p : Addr), ys.Perm xs → ys.Pairwise (fun x y => ∀ n m, TupV K H x n → TupV K H y m → lexI m n = false) → H p = none → Q (.ref p) (upd H p (.lst ys))
section
variable {X : Cx} {B : Bs}
theorem tupV_raw {pins : List (Addr × Obj)} {σ : L2.St} {H : Hp} {s : Shared} (I : Inv X pins σ H s) {t : Addr} {ns : List Int} (h : SqT X.K H t (ns.map V.int)) : _root_.TS.TupInts s.heap (.ref t) ns := by
  obtain ⟨its, rv, hT, _⟩ := I.tuple h
  exact ⟨t, its.toArray, rfl, hT, by simpa using rv.ints⟩
theorem cr_sortV : CallR X (.builtin "sorted") (rSortV X.K) := by
  intro pins s σ H vs us Q I r h
  obtain ⟨a, xs, d, rfl, hs, hd, hx, q⟩ := h
  obtain ⟨its, rv, hl, hz⟩ := I.list hs
  obtain ⟨u, rfl, ru⟩ := vals1 r
  obtain rfl : u = Value.ref a := ru
  obtain ⟨e1, e2⟩ := refs_back rv fun x m => by
    obtain ⟨ns, ⟨t, e, _⟩, _⟩ := hx x m
    exact ⟨t, e⟩
  have tups : TupsI s.heap d its := fun v hv => by
    obtain ⟨t, rfl⟩ := e2 v hv
    have hm : V.ref t ∈ xs := by rw [e1]; exact List.mem_map.mpr ⟨_, hv, rfl⟩
    obtain ⟨ns, ⟨t', e, ht⟩, hn⟩ := hx _ hm
    cases e
    exact ⟨ns, tupV_raw I ht, hn⟩
  refine SrtO.sorted_ord (swo_lexI (_root_.TS.intsOf s.heap)) hl.isList (by rw [← rv.length]; exact hz) (fun h2 h₁ a ha kk => ?_) fun out hs hb => ?_
  · have tups' : TupsI h₁ d its := fun v hv => let ⟨ns, t, r⟩ := tups v hv; ⟨ns, t.keeps fun b o e _ => (kk b o e).2, r⟩
    refine sortableI (s := { s with heap := h₁ }) hd (by omega) tups' _ (fun v hv ns tn => ?_) fun o e => ?_
    · obtain ⟨ns', t', _⟩ := tups v hv
      rw [t'.ints]
      have t2 := t'.keeps (h' := h₁) fun b o e _ => (kk b o e).2
      exact t2.ints.symm.trans tn.ints
    · have e' : some o = some (PyProof.Rows.seqObj "list" its.toArray 0) := e.symm.trans ha
      cases e'
      intro c
      exact absurd (Value.type.inj c) (by decide)
  · obtain ⟨ep, he'⟩ := PyProof.Rows.sortedAll_at s.heap its out.toArray
    have h3 : ∀ u ∈ out, ∃ a, u = Value.ref a := fun u hu => e2 u (hb.perm.mem_iff.mp hu)
    have hp : (out.map backV).Perm xs := by
      rw [e1]
      exact hb.perm.map backV
    have hlen : (out.map backV).length ≤ sizeLine := by
      rw [hp.length_eq]
      exact hz
    refine ⟨.ref _, upd H (s.heap.objs.size + 1) (.lst (out.map backV)), I.laid (t' := s.toks) (fun _ _ => PyProof.Rows.sortedAll_old) (Nat.le_succ _) ⟨hlen, out, ep, vals_back h3, he'⟩, rfl, q _ _ hp ?_ (I.hok.fresh (Nat.le_succ _))⟩
    rw [List.pairwise_map]
    refine List.Pairwise.imp_of_mem (fun {u v} hu hv huv n m hn hm => ?_) hs
    obtain ⟨t, et, ht⟩ := hn
    obtain ⟨t', et', ht'⟩ := hm
    obtain ⟨au, rfl⟩ := h3 _ hu
    obtain ⟨av, rfl⟩ := h3 _ hv
    cases et
    cases et'
    rw [← (tupV_raw I ht).ints, ← (tupV_raw I ht').ints]
    exact huv
def numL : List D → Option (List Int)
  | [] => some []
  | .int i :: xs => (numL xs).map (i :: ·)
  | _ => none
/-- the integers of a tuple -/
def numsT : D → List Int
  | .tup xs => (numL xs).getD []
  | _ => []
theorem numL_map : ∀ ns : List Int, numL (ns.map D.int) = some ns
  | [] => rfl
  | n :: ns => by simp [numL, numL_map ns]
@[simp] theorem numsT_map (ns : List Int) : numsT (.tup (ns.map D.int)) = ns := by simp [numsT, numL_map]
theorem reps_intsV {K : Kn} {F : Hp} : ∀ {ns : List Int} {vs : List V}, Reps K F vs (ns.map D.int) → vs = ns.map V.int
  | [], _, .nil => rfl
  | n :: ns, _, .cons r t => by
    cases r
    rw [reps_intsV t]
    rfl
theorem Rep.tupV {K : Kn} {F H : Hp} {v : V} {ns : List Int} (h : Rep K F v (.tup (ns.map D.int))) (e : Same F H) : TupV K.K H v ns := by
  cases h with
  | tup h r => exact ⟨_, rfl, same_t e (by rw [← reps_intsV r]; exact h)⟩
def sortT : List D → (List D → Prop) → Prop
  | [.lst xs], Q => (∃ d, 1 ≤ d ∧ ∀ x ∈ xs, ∃ ns : List Int, x = .tup (ns.map D.int) ∧ ns.length = d) ∧ ∀ ys : List D, ys.Perm xs → ys.Pairwise (fun x y => lexI (numsT y) (numsT x) = false) → Q ys
  | _, _ => False
theorem c_sortT : CallR X (.builtin "sorted") (LCf B X.kn sortT) := callR_by fun vs H Q ⟨F, ds, Qd, e, dk, r, q, k⟩ => by
  unfold sortT at q
  split at q
  · obtain ⟨v, rfl, r1⟩ := rb1 r
    obtain ⟨a, us, rfl, st, rs⟩ := r1.lst e
    obtain ⟨⟨d, hd, hx⟩, q⟩ := q
    have each : ∀ x ∈ us, ∃ y ∈ _, Rep X.kn F x y := fun x m => by
      obtain ⟨i, hi, ex⟩ := List.mem_iff_getElem.mp m
      obtain ⟨y, hy, ry⟩ := rs.getV (i := i) (u := x) (by rw [List.getElem?_eq_getElem hi, ex])
      exact ⟨y, List.mem_of_getElem? hy, ry⟩
    refine ⟨_, cr_sortV, a, us, d, rfl, SqL.of st, hd, fun x m => ?_, fun ys p pm pw hp => ?_⟩
    · obtain ⟨y, my, ry⟩ := each x m
      obtain ⟨ns, rfl, hn⟩ := hx y my
      exact ⟨ns, ry.tupV e, hn⟩
    · obtain ⟨es, pe, re⟩ := perm_reps pm rs
      refine k.laid e dk (q es pe ?_) hp re
      rw [List.pairwise_iff_getElem] at pw ⊢
      intro i j hi hj hij
      have li : i < ys.length := by rw [re.length]; exact hi
      have lj : j < ys.length := by rw [re.length]; exact hj
      have z := pw i j li lj hij
      obtain ⟨xi, h1, r1⟩ := re.getV (List.getElem?_eq_getElem li)
      obtain ⟨xj, h2, r2⟩ := re.getV (List.getElem?_eq_getElem lj)
      rw [List.getElem?_eq_getElem hi] at h1
      rw [List.getElem?_eq_getElem hj] at h2
      cases h1
      cases h2
      obtain ⟨ns, e1, _⟩ := hx _ (pe.mem_iff.mp (List.getElem_mem hi))
      obtain ⟨ms, e2, _⟩ := hx _ (pe.mem_iff.mp (List.getElem_mem hj))
      rw [e1] at r1 ⊢
      rw [e2] at r2 ⊢
      rw [numsT_map, numsT_map]
      exact z ns ms (r1.tupV e) (r2.tupV e)
  · exact q.elim
end

/-! ### constants of the module -/
structure GlobC (K : Kn) (x : Str) (d : D) : Prop where
  ex : ∃ v u, K.mg x = some u ∧ RelV v u ∧ ∀ F, Rep K F v d
theorem ed_glob {B : Bs} {X : Cx} {x : Str} {pos : Pos} {d : D} (G : GlobC X.kn x d) (hg : Gl X x := by rfl) (ndb : (x == ("__debug__" : Str)) = false := by decide) : ED B X (.Name x pos) (gC d) := by
  obtain ⟨v, u, hm, rv, r⟩ := G.ex
  exact ed_c (pe_glob hg hm rv ndb) r
theorem rep_ktup {K : Kn} {a : Addr} {dd : Option Addr} {its : Array Value} {n : Nat} {sl : Array (Option Value)} {vs : List V} {ds : List D} (h : K.K.lookup a = some ⟨.type "tuple", dd, .seq its n, sl⟩) (hl : its.size ≤ sizeLine) (hv : Vals vs its.toList) (r : ∀ F, Reps K F vs ds) : ∀ F, Rep K F (.ref a) (.tup ds) :=
  fun F => .tup (.inr ⟨_, its, n, h, rfl, rfl, hl, hv⟩) (r F)
end ND

/-! ND34: what the printed text of a law with objects asks -/
namespace ND
open PySem PySem.Spec L2
open PyProof.Rows (envOfC)
theorem td_cmpE {B : Bs} {X : Cx} {a b : Expr} {pos : Pos} {fa fb : GE} {g : D → D → (D → Prop) → Prop} {op : CmpOp} (ho : OpR X (compareOp op) (LO2E B X.kn g)) (ha : ED B X a fa) (hb : ED B X b fb) (hm : behindInMarks op b = false) : TD B X (.Compare a [op] [b] pos) (gB (gBin g fa fb)) :=
  ⟨pt_imp (pt_cmpR ho ha.run hb.run hm) fun s H Q ⟨σ, F, Qd, R, q, k⟩ => lo2e_of R q (fin_b k)⟩
theorem relv_int (i : Int) (t : Tok) : RelV (.int i) (.int i t) := ⟨t, rfl⟩
theorem relv_str (x : Str) (t : Tok) : RelV (.str x) (.str x t) := ⟨t, rfl⟩
theorem nbSorted : bootBuiltins "sorted" = some (.builtin "sorted") := by decide +kernel
section
variable {P : Program} {w : World} {K : PySem.W.Frag} {mg : Str → Option Value} {base : Heap} {n qual : Str} {st : Stmt} {f C : Addr} {fd : FuncData} {k : Nat} {sp : DSp} {T : List (Addr × Str)} {known : Str → Bool}
theorem eqof (kn : known n = true) (hm : mg n = some (.ref C)) (hq : PySem.W.findIn K (.ref C) "__eq__" = some (some (.ref f))) (hf : PySem.W.isFn K (.ref f) = true) (F : Fun K "__eq__" qual st f fd)
    (b : ∀ (kV doc pm : Value) (an : Option Addr) (cdv ct : Value) (us : List Value), us.length = 2 → bindArgs (PySem.W.fnOf "__eq__" qual (defArgs st) (defBody st) (defScope st) .none kV doc pm an cdv ct) ⟨us, []⟩ = pure (((["self", "other"] : List Str)).zip us))
    (G : FnOk P w K mg base (L2.CX P w) k f fd ["self", "other"] (liftSp ⟨K, mg⟩ T sp)) (ty : ∀ W x y Q R, sp W [x, y] Q R → tyX known y = true) : EqOf P w K mg base T k known n sp := by
  refine ⟨kn, ⟨C, f, fd, _, hm, hq, hf, ?_, G⟩, ty⟩
  obtain ⟨oc, od, kV, doc, pm, an, cdv, ct, osl, rfl, lk, hcd⟩ := F.ex
  exact .all (b kV doc pm an cdv ct)
/-- __init__ with defaults -/
theorem fund_mk {oc : Value} {od : Option Addr} {D : Addr} {kV doc pm : Value} {an : Option Addr} {cdv ct : Value} {osl : Array (Option Value)} {o : Obj} {its : List Value} {m : Nat} {dvs : List V}
    (l : K.lookup f = some ⟨oc, od, .func (PySem.W.fnOf "__init__" qual (defArgs st) (defBody st) (defScope st) (.ref D) kV doc pm an cdv ct), osl⟩) (hc : PySem.W.codeIn K cdv qual = true) (kp : PySem.W.keepIn K (.ref f) = true)
    (hd : dvs ≠ []) (lD : K.lookup D = some o) (oD : o.data = .seq its.toArray m) (r : Vals dvs its) :
    FunD K "__init__" qual (defArgs st) (defBody st) (defScope st) dvs [] f (PySem.W.fnOf "__init__" qual (defArgs st) (defBody st) (defScope st) (.ref D) kV doc pm an cdv ct) :=
  ⟨⟨oc, od, .ref D, kV, doc, pm, an, cdv, ct, osl, rfl, l, hc, .inr ⟨hd, D, o, its, m, rfl, lD, oD, r⟩, .inl rfl⟩, kp⟩
end
theorem obtab_one {K : Kn} {n : Str} {C : Addr} (O : ObC K n C) (bt : ∀ t ∈ tyL, PySem.W.kitOne K.K (.type t) (.ref C) = some false) (tb : ∀ t ∈ tyL, PySem.W.kitOne K.K (.ref C) (.type t) = some false)
    (oo : PySem.W.kitOne K.K (.ref C) (.ref C) = some true) (ns : ∀ t ∈ tyL, PySem.W.subIn K.K (.type t) (.ref C) = some false) : ObTab K fun m => m == n := by
  have one : ∀ m C', (m == n) = true → K.mg m = some (.ref C') → m = n ∧ C' = C := fun m C' h e => by
    have := beq_iff_eq.mp h
    subst this
    exact ⟨rfl, Value.ref.inj (Option.some.inj (e.symm.trans O.mg))⟩
  refine ⟨fun m h => ?_, fun m C' h e t ht => ?_, fun m C' h e t ht => ?_, fun m m' C1 C2 h h' e e' => ?_, fun m C' h e t ht => ?_, fun m m' C1 C2 h h' ne e e' => ?_⟩
  · have := beq_iff_eq.mp h
    subst this
    exact ⟨C, O⟩
  · obtain ⟨rfl, rfl⟩ := one m C' h e
    exact bt t ht
  · obtain ⟨rfl, rfl⟩ := one m C' h e
    exact tb t ht
  · obtain ⟨rfl, rfl⟩ := one m C1 h e
    obtain ⟨rfl, rfl⟩ := one m' C2 h' e'
    rw [beq_self_eq_true]
    exact oo
  · obtain ⟨rfl, rfl⟩ := one m C' h e
    exact ns t ht
  · obtain ⟨rfl, rfl⟩ := one m C1 h e
    obtain ⟨rfl, rfl⟩ := one m' C2 h' e'
    rw [beq_self_eq_true] at ne
    cases ne
end ND

/-! ND35: golden numbers (first written for k06, k07) -/
namespace ND
open PySem PySem.Spec L2
theorem five_sq : ∀ (n : Nat) (x b : Nat), b ≤ n → x * x = 5 * b * b → b = 0
  | 0, x, b, h, _ => by omega
  | n + 1, x, b, h, e => by
    have h5 : x % 5 = 0 := by
      have h1 : (x * x) % 5 = 0 := by rw [e, Nat.mul_assoc, Nat.mul_mod_right]
      rw [Nat.mul_mod] at h1
      have h2 : x % 5 < 5 := Nat.mod_lt _ (by decide)
      generalize x % 5 = y at h1 h2 ⊢
      have : y = 0 ∨ y = 1 ∨ y = 2 ∨ y = 3 ∨ y = 4 := by omega
      rcases this with h | h | h | h | h <;> subst h <;> simp_all
    obtain ⟨y, rfl⟩ : ∃ y, x = 5 * y := ⟨x / 5, by omega⟩
    have e2 : b * b = 5 * y * y := by
      have : 5 * y * (5 * y) = 5 * (5 * y * y) := by simp [Nat.mul_assoc, Nat.mul_comm, Nat.mul_left_comm]
      have h3 : 5 * b * b = 5 * (b * b) := Nat.mul_assoc _ _ _
      omega
    by_cases hb : b = 0
    · exact hb
    · have hy : y < b := by
        rcases Nat.lt_or_ge y b with h | h
        · exact h
        · have h1 := Nat.mul_le_mul h h
          have h2 : 5 * y * y = 5 * (y * y) := Nat.mul_assoc _ _ _
          have h3 : 0 < b * b := Nat.mul_pos (by omega) (by omega)
          omega
      have z := five_sq n b y (by omega) e2
      subst z
      have : b * b = 0 := by omega
      exact absurd ((Nat.mul_eq_zero.mp this).elim id id) hb
theorem no_tie {x b : Int} (hb : b ≠ 0) : x * x ≠ 5 * b * b := fun e => by
  have e2 : x.natAbs * x.natAbs = 5 * b.natAbs * b.natAbs := by
    have := congrArg Int.natAbs e
    rw [Int.natAbs_mul, Int.natAbs_mul, Int.natAbs_mul] at this
    exact this
  have := five_sq b.natAbs x.natAbs b.natAbs (Nat.le_refl _) e2
  omega

abbrev tri (a b m : Int) : D := .tup [.int a, .int b, .int m]
/-- the common divisor with the sign of d -/
def cdv (a b d : Int) : Int := if d < 0 then -((Nat.gcd (Nat.gcd a.natAbs b.natAbs) d.natAbs : Nat) : Int) else ((Nat.gcd (Nat.gcd a.natAbs b.natAbs) d.natAbs : Nat) : Int)
/-- the reduced number -/
def red (a b d : Int) : D := tri (a.fdiv (cdv a b d)) (b.fdiv (cdv a b d)) (d.fdiv (cdv a b d))
theorem cdv_ne {a b d : Int} (h : d ≠ 0) : cdv a b d ≠ 0 := by
  have : 0 < Nat.gcd (Nat.gcd a.natAbs b.natAbs) d.natAbs := Nat.gcd_pos_of_pos_right _ (Int.natAbs_pos.mpr h)
  unfold cdv
  split <;> omega
theorem cdv_neg {a b d : Int} (h : d ≠ 0) : cdv (-a) (-b) (-d) = -cdv a b d := by
  unfold cdv
  rw [Int.natAbs_neg, Int.natAbs_neg, Int.natAbs_neg]
  rcases Int.lt_or_gt_of_ne h with h | h
  · rw [if_neg (by omega), if_pos h, Int.neg_neg]
  · rw [if_pos (by omega), if_neg (by omega)]
theorem red_neg {a b d : Int} (h : d ≠ 0) : red (-a) (-b) (-d) = red a b d := by
  unfold red
  rw [cdv_neg h, Int.neg_fdiv_neg, Int.neg_fdiv_neg, Int.neg_fdiv_neg]
theorem cdv_one (a b : Int) : cdv a b 1 = 1 := by
  unfold cdv
  rw [if_neg (by decide)]
  simp
theorem red_one (a b : Int) : red a b 1 = tri a b 1 := by
  unfold red
  rw [cdv_one, Int.fdiv_one, Int.fdiv_one, Int.fdiv_one]
theorem cdv_dvd (a b d : Int) : cdv a b d ∣ a ∧ cdv a b d ∣ b ∧ cdv a b d ∣ d := by
  have h1 : (((Nat.gcd (Nat.gcd a.natAbs b.natAbs) d.natAbs : Nat) : Int)) ∣ a := Int.ofNat_dvd_left.mpr (Nat.dvd_trans (Nat.gcd_dvd_left _ _) (Nat.gcd_dvd_left _ _))
  have h2 : (((Nat.gcd (Nat.gcd a.natAbs b.natAbs) d.natAbs : Nat) : Int)) ∣ b := Int.ofNat_dvd_left.mpr (Nat.dvd_trans (Nat.gcd_dvd_left _ _) (Nat.gcd_dvd_right _ _))
  have h3 : (((Nat.gcd (Nat.gcd a.natAbs b.natAbs) d.natAbs : Nat) : Int)) ∣ d := Int.ofNat_dvd_left.mpr (Nat.gcd_dvd_right _ _)
  unfold cdv
  split
  · exact ⟨Int.neg_dvd.mpr h1, Int.neg_dvd.mpr h2, Int.neg_dvd.mpr h3⟩
  · exact ⟨h1, h2, h3⟩
theorem fdiv_sz {n : Nat} {a c : Int} (h : Sz n a) (hd : c ∣ a) (hc : c ≠ 0) : Sz n (a.fdiv c) := by
  obtain ⟨k, rfl⟩ := hd
  rw [Int.mul_fdiv_cancel_left _ hc]
  have h1 : (c * k).natAbs < 2 ^ n := h
  rw [Int.natAbs_mul] at h1
  have : 1 ≤ c.natAbs := Int.natAbs_pos.mpr hc
  exact Nat.lt_of_le_of_lt (Nat.le_mul_of_pos_left _ this) h1
theorem cdv_sign {a b d : Int} (h : d ≠ 0) : (d < 0 ∧ cdv a b d < 0) ∨ (0 < d ∧ 0 < cdv a b d) := by
  have : 0 < Nat.gcd (Nat.gcd a.natAbs b.natAbs) d.natAbs := Nat.gcd_pos_of_pos_right _ (Int.natAbs_pos.mpr h)
  unfold cdv
  rcases Int.lt_or_gt_of_ne h with h | h
  · rw [if_pos h]; omega
  · rw [if_neg (by omega)]; omega
theorem fdiv_pos' {a b d : Int} (h : d ≠ 0) : 1 ≤ d.fdiv (cdv a b d) := by
  have hc := cdv_ne (a := a) (b := b) h
  have hs := cdv_sign (a := a) (b := b) h
  obtain ⟨k, e⟩ := (cdv_dvd a b d).2.2
  generalize cdv a b d = c at *
  subst e
  rw [Int.mul_fdiv_cancel_left _ hc]
  rcases hs with ⟨h1, h2⟩ | ⟨h1, h2⟩
  · rcases Int.lt_or_le 0 k with hk | hk
    · exact hk
    · have := Int.mul_nonneg_of_nonpos_of_nonpos (Int.le_of_lt h2) hk
      omega
  · rcases Int.lt_or_le 0 k with hk | hk
    · exact hk
    · have := Int.mul_nonpos_of_nonneg_of_nonpos (Int.le_of_lt h2) hk
      omega
/-- a number below 2^n -/
def Num (n : Nat) (a b d : Int) : Prop := Sz n a ∧ Sz n b ∧ Sz n d ∧ 1 ≤ d
theorem red_num {n : Nat} {a b d : Int} (ha : Sz n a) (hb : Sz n b) (hd : Sz n d) (h : d ≠ 0) : ∃ x y z, red a b d = tri x y z ∧ Num n x y z := by
  obtain ⟨d1, d2, d3⟩ := cdv_dvd a b d
  exact ⟨_, _, _, rfl, fdiv_sz ha d1 (cdv_ne h), fdiv_sz hb d2 (cdv_ne h), fdiv_sz hd d3 (cdv_ne h), fdiv_pos' h⟩
theorem cdv_sz {n : Nat} {a b d : Int} (hd : Sz n d) (h : d ≠ 0) : Sz n (cdv a b d) := by
  obtain ⟨k, e⟩ := (cdv_dvd a b d).2.2
  have hk : k ≠ 0 := fun z => h (by rw [e, z, Int.mul_zero])
  have h1 : d.natAbs < 2 ^ n := hd
  have h2 : d.natAbs = (cdv a b d).natAbs * k.natAbs := by
    conv => lhs; rw [e]
    exact Int.natAbs_mul _ _
  rw [h2] at h1
  exact Nat.lt_of_le_of_lt (Nat.le_mul_of_pos_right _ (Int.natAbs_pos.mpr hk)) h1
/-- Euclid -/
theorem gcd_step {x y : Int} (hx : 0 ≤ x) (hy : 0 < y) : Nat.gcd y.natAbs (x % y).natAbs = Nat.gcd x.natAbs y.natAbs := by
  have e : (x % y).natAbs = x.natAbs % y.natAbs := by
    rw [Int.natAbs_emod_of_nonneg hx]
  rw [e, Nat.gcd_comm y.natAbs, ← Nat.gcd_rec, Nat.gcd_comm]
/-- the norm is zero for zero alone -/
theorem norm_ne {c e : Int} (h : ¬ (c = 0 ∧ e = 0)) : c * c + c * e - e * e ≠ 0 := fun z => by
  have h5 : (2 * c + e) * (2 * c + e) = 5 * e * e := by
    have : (2 * c + e) * (2 * c + e) = 4 * (c * c + c * e - e * e) + 5 * e * e := by
      simp only [Int.mul_add, Int.add_mul, Int.mul_sub, Int.mul_assoc, Int.mul_left_comm _ 2, Int.mul_comm e c]
      omega
    omega
  by_cases he : e = 0
  · subst he
    have : c * c = 0 := by simpa using z
    rcases Int.mul_eq_zero.mp this with h1 | h1 <;> exact h ⟨h1, rfl⟩
  · exact no_tie he h5
theorem Num.up {n m : Nat} {a b d : Int} (h : Num n a b d) (e : n ≤ m) : Num m a b d := ⟨h.1.mono e, h.2.1.mono e, h.2.2.1.mono e, h.2.2.2⟩
theorem Num.ok {n m : Nat} {a b d c e f : Int} (h : Num n a b d) (k : Num m c e f) (l : n + m ≤ 400000) : MulOk a f ∧ MulOk c d ∧ MulOk b f ∧ MulOk e d ∧ MulOk d f ∧ MulOk a c ∧ MulOk b e ∧ MulOk a e ∧ MulOk b c :=
  ⟨h.1.ok k.2.2.1 (by omega), k.1.ok h.2.2.1 (by omega), h.2.1.ok k.2.2.1 (by omega), k.2.1.ok h.2.2.1 (by omega), h.2.2.1.ok k.2.2.1 (by omega), h.1.ok k.1 (by omega), h.2.1.ok k.2.1 (by omega), h.1.ok k.2.1 (by omega), h.2.1.ok k.1 (by omega)⟩
theorem add_sz {n m : Nat} {a b d c e f : Int} (h : Num n a b d) (k : Num m c e f) : Sz (n + m + 1) (a * f + c * d) ∧ Sz (n + m + 1) (b * f + e * d) ∧ Sz (n + m + 1) (d * f) ∧ 1 ≤ d * f :=
  ⟨(h.1.mul k.2.2.1).add ((k.1.mul h.2.2.1).mono (by omega)), (h.2.1.mul k.2.2.1).add ((k.2.1.mul h.2.2.1).mono (by omega)), (h.2.2.1.mul k.2.2.1).mono (by omega), Int.mul_pos h.2.2.2 k.2.2.2⟩
theorem mul_sz {n m : Nat} {a b d c e f : Int} (h : Num n a b d) (k : Num m c e f) : Sz (n + m + 2) (a * c + b * e) ∧ Sz (n + m + 2) (a * e + b * c + b * e) ∧ Sz (n + m + 2) (d * f) ∧ 1 ≤ d * f :=
  ⟨((h.1.mul k.1).add (h.2.1.mul k.2.1)).mono (by omega), ((h.1.mul k.2.1).add (h.2.1.mul k.1)).add ((h.2.1.mul k.2.1).mono (by omega)), (h.2.2.1.mul k.2.2.1).mono (by omega), Int.mul_pos h.2.2.2 k.2.2.2⟩
theorem Num.neg {n : Nat} {a b d : Int} (h : Num n a b d) : Num n (-a) (-b) d := ⟨h.1.neg, h.2.1.neg, h.2.2⟩
theorem con_sz {n : Nat} {a b d : Int} (h : Num n a b d) : Sz (n + 1) (a + b) ∧ Sz (n + 1) (-b) ∧ Sz (n + 1) d := ⟨h.1.add h.2.1, h.2.1.neg.mono (by omega), h.2.2.1.mono (by omega)⟩
theorem Num.one {n : Nat} {a b d : Int} (h : Num n a b d) : Num n a b 1 := ⟨h.1, h.2.1, by
  have h1 : d.natAbs < 2 ^ n := h.2.2.1
  have h2 := h.2.2.2
  show (1 : Int).natAbs < 2 ^ n
  have : (1 : Int).natAbs = 1 := rfl
  omega, by decide⟩
theorem quo_sz {n m : Nat} {a b d c e f : Int} (h : Num n a b d) (k : Num m c e f) : Sz (n + m + 2) (a * (c + e) - b * e) ∧ Sz (n + m + 2) (b * c - a * e) ∧ Sz (m + m + 2) (c * c + c * e - e * e) ∧ Sz (m + 1) (c + e) :=
  ⟨((h.1.mul (k.1.add k.2.1)).sub ((h.2.1.mul k.2.1).mono (by omega))).mono (by omega), ((h.2.1.mul k.1).sub (h.1.mul k.2.1)).mono (by omega), ((k.1.mul k.1).add (k.1.mul k.2.1)).sub ((k.2.1.mul k.2.1).mono (by omega)), k.1.add k.2.1⟩
/-- the sign of a + b g -/
def psg (a b : Int) : Int :=
  if 0 ≤ 2 * a + b ∧ 0 ≤ b then (if 0 < 2 * a + b ∨ 0 < b then 1 else 0)
  else if 2 * a + b ≤ 0 ∧ b ≤ 0 then -1
  else if 0 < 2 * a + b then (if 5 * b * b < (2 * a + b) * (2 * a + b) then 1 else -1)
  else if 5 * b * b < (2 * a + b) * (2 * a + b) then -1 else 1
theorem psg_neg (a b : Int) : psg (-a) (-b) = -psg a b := by
  have e : 2 * -a + -b = -(2 * a + b) := by omega
  have e2 : 5 * -b * -b = 5 * b * b := by rw [Int.mul_neg, Int.mul_neg, Int.neg_mul, Int.neg_neg]
  unfold psg
  rw [e, e2, Int.neg_mul_neg]
  generalize 2 * a + b = x
  by_cases h : 5 * b * b < x * x
  · rw [if_pos h, if_pos h]
    repeat' split
    all_goals first | rfl | omega
  · rw [if_neg h, if_neg h]
    repeat' split
    all_goals first | rfl | omega
def flr (a b m : Int) : Int := if 0 ≤ b then (2 * a + b + ((Float64.isqrt (5 * b * b).toNat : Nat) : Int)) / (2 * m) else (2 * a + b - ((Float64.isqrt (5 * b * b).toNat : Nat) : Int) - 1) / (2 * m)
theorem sq_lt {x y : Int} (h0 : 0 ≤ x) (h : x < y) : x * x < y * y := Int.mul_lt_mul' (Int.le_of_lt h) h h0 (by omega)
theorem sq_le {x y : Int} (h0 : 0 ≤ x) (h : x ≤ y) : x * x ≤ y * y := Int.mul_le_mul h h h0 (by omega)
theorem root5 (b : Int) : ∃ r : Int, ((Float64.isqrt (5 * b * b).toNat : Nat) : Int) = r ∧ 0 ≤ r ∧ r * r ≤ 5 * b * b ∧ 5 * b * b < (r + 1) * (r + 1) := by
  have hn : 0 ≤ 5 * b * b := by
    rw [Int.mul_assoc]
    exact Int.mul_nonneg (by decide) (by
      rcases Int.le_total 0 b with h | h
      · exact Int.mul_nonneg h h
      · exact Int.mul_nonneg_of_nonpos_of_nonpos h h)
  obtain ⟨n, hn2⟩ := Int.eq_ofNat_of_zero_le hn
  obtain ⟨h1, h2⟩ := Float64.isqrt_spec n
  rw [hn2]
  refine ⟨_, rfl, Int.natCast_nonneg _, ?_, ?_⟩
  · rw [Int.toNat_natCast]
    exact_mod_cast h1
  · rw [Int.toNat_natCast]
    exact_mod_cast h2
theorem flr_ok {a b m : Int} (hm : 1 ≤ m) : 0 ≤ psg (a - flr a b m * m) b ∧ psg (a - (flr a b m + 1) * m) b < 0 := by
  obtain ⟨r, er, r0, r1, r2⟩ := root5 b
  unfold flr
  rw [er]
  have key : ∀ k : Int, 2 * (a - k * m) + b = (2 * a + b) - k * (2 * m) := fun k => by
    have : k * (2 * m) = 2 * (k * m) := by rw [Int.mul_left_comm]
    omega
  unfold psg
  rw [key, key]
  have hM : 0 < 2 * m := by omega
  by_cases hb : 0 ≤ b
  · rw [if_pos hb]
    generalize hx : 2 * a + b = x
    have q1 := Int.ediv_mul_le (x + r) (Int.ne_of_gt hM)
    have q2 := Int.lt_ediv_add_one_mul_self (x + r) hM
    generalize (x + r) / (2 * m) * (2 * m) = u at q1 ⊢
    generalize ((x + r) / (2 * m) + 1) * (2 * m) = v at q2 ⊢
    constructor
    · by_cases c : 0 ≤ x - u
      · rw [if_pos ⟨c, hb⟩]
        split <;> decide
      · have c2 : ¬ 5 * b * b < (x - u) * (x - u) := by
          have := sq_le (x := u - x) (y := r) (by omega) (by omega)
          have e : (u - x) * (u - x) = (x - u) * (x - u) := by rw [← Int.neg_mul_neg]; congr 1 <;> omega
          omega
        rw [if_neg (fun z => c z.1)]
        by_cases c3 : b ≤ 0
        · have hb0 : b = 0 := by omega
          subst hb0
          have r00 : r = 0 := by
            rcases Int.lt_or_le 0 r with h | h
            · have := Int.mul_pos h h
              simp at r1
              omega
            · omega
          omega
        · rw [if_neg (fun z => c3 z.2), if_neg (by omega), if_neg c2]
          decide
    · have c : ¬ 0 ≤ x - v := by omega
      rw [if_neg (fun z => c z.1)]
      by_cases c3 : b ≤ 0
      · rw [if_pos ⟨by omega, c3⟩]
        decide
      · have c2 : 5 * b * b < (x - v) * (x - v) := by
          have := sq_le (x := r + 1) (y := v - x) (by omega) (by omega)
          have e : (v - x) * (v - x) = (x - v) * (x - v) := by rw [← Int.neg_mul_neg]; congr 1 <;> omega
          omega
        rw [if_neg (fun z => c3 z.2), if_neg (by omega), if_pos c2]
        decide
  · rw [if_neg hb]
    generalize hx : 2 * a + b = x
    have q1 := Int.ediv_mul_le (x - r - 1) (Int.ne_of_gt hM)
    have q2 := Int.lt_ediv_add_one_mul_self (x - r - 1) hM
    generalize (x - r - 1) / (2 * m) * (2 * m) = u at q1 ⊢
    generalize ((x - r - 1) / (2 * m) + 1) * (2 * m) = v at q2 ⊢
    constructor
    · rw [if_neg (fun z => hb z.2), if_neg (by omega), if_pos (by omega)]
      have := sq_le (x := r + 1) (y := x - u) (by omega) (by omega)
      rw [if_pos (by omega)]
      decide
    · rw [if_neg (fun z => hb z.2)]
      by_cases c : x - v ≤ 0
      · rw [if_pos ⟨c, by omega⟩]
        decide
      · have := sq_le (x := x - v) (y := r) (by omega) (by omega)
        rw [if_neg (fun z => c z.1), if_pos (by omega), if_neg (by omega)]
        decide
theorem pair_sz {a b : Int} (ha : Sz 200000 a) (hb : Sz 200000 b) : MulOk 2 a ∧ MulOk (2 * a + b) (2 * a + b) ∧ MulOk 5 b ∧ MulOk (5 * b) b := by
  have h2 : Sz 2 (2 : Int) := by decide
  have h5 : Sz 3 (5 : Int) := by decide
  have hx : Sz 200003 (2 * a + b) := ((h2.mul ha).mono (by decide : 2 + 200000 ≤ 200002)).add (hb.mono (by decide))
  exact ⟨h2.ok ha (by decide), hx.ok hx (by decide), h5.ok hb (by decide), (h5.mul hb).ok hb (by decide)⟩
theorem flr_sz {a b m : Int} (h : Num 6000 a b m) : MulOk 2 a ∧ MulOk 2 m ∧ MulOk 5 b ∧ MulOk (5 * b) b ∧ 0 ≤ 5 * b * b ∧ (5 * b * b).toNat.log2 < 13000 ∧ 0 < m ∧ (2 * m).natAbs.log2 < 9000 := by
  obtain ⟨h1, h2, h3, h4⟩ := h
  have e2 : Sz 2 (2 : Int) := by decide
  have e5 : Sz 3 (5 : Int) := by decide
  have hs := (e5.mul h2).mul h2
  obtain ⟨r, _, r0, r1, _⟩ := root5 b
  have r2 : 0 ≤ r * r := Int.mul_nonneg r0 r0
  have hp : 0 ≤ 5 * b * b := Int.le_trans r2 r1
  have hl := hs.log
  have ht : (5 * b * b).toNat = (5 * b * b).natAbs := by omega
  rw [ht]
  have hm := (e2.mul h3).log
  exact ⟨e2.ok h1 (by decide), e2.ok h3 (by decide), e5.ok h2 (by decide), (e5.mul h2).ok h2 (by decide), hp, by omega, by omega, by omega⟩
def wholeB (a b m : Int) : Bool := if a % m = 0 then decide (b % m = 0) else false
mutual
theorem pl_plain : ∀ (n : Nat) (d : D), pl n d = true → (toPy d).plain = true
  | _, .non, _ => rfl
  | _, .bl _, _ => rfl
  | _, .int _, _ => rfl
  | _, .str _, _ => rfl
  | 0, .tup _, p => by simp [pl] at p
  | 0, .lst _, p => by simp [pl] at p
  | n + 1, .tup xs, p => by
    simp only [pl] at p
    simp only [toPy, PyData.plain]
    exact pls_plain n xs p
  | n + 1, .lst xs, p => by
    simp only [pl] at p
    simp only [toPy, PyData.plain]
    exact pls_plain n xs p
  | _, .dic _, p => by simp [pl] at p
  | _, .obj _ _, p => by simp [pl] at p
  | _, .opq _, p => by simp [pl] at p
theorem pls_plain : ∀ (n : Nat) (d : List D), pls n d = true → PyData.plainAll (toPys d) = true
  | _, [], _ => rfl
  | n, x :: xs, p => by
    simp only [pls, Bool.and_eq_true] at p
    simp only [toPys, PyData.plainAll, Bool.and_eq_true]
    exact ⟨pl_plain n x p.1, pls_plain n xs p.2⟩
end
theorem eqb_refl {n : Nat} {x : D} (h : pl n x = true) : eqb x x = true := PySem.SeqAt.eqv_refl_plain _ (pl_plain n x h)
theorem eqD_refl {x : D} {Q : D → Prop} (h : pl 64 x = true) (q : Q (.bl true)) : eqD x x Q := by
  cases x with
  | str a => simpa [eqD] using q
  | _ => exact ⟨h, h, by rw [eqb_refl h]; exact q⟩
theorem red_prop {a b d : Int} (h : d ≠ 0) : ∃ p q r, red a b d = tri p q r ∧ 1 ≤ r ∧ p * d = a * r ∧ q * d = b * r := by
  obtain ⟨d1, d2, d3⟩ := cdv_dvd a b d
  have hc := cdv_ne (a := a) (b := b) h
  refine ⟨_, _, _, rfl, fdiv_pos' h, ?_, ?_⟩
  · obtain ⟨x, e1⟩ := d1
    obtain ⟨z, e3⟩ := d3
    have f1 : a.fdiv (cdv a b d) = x := by conv => lhs; lhs; rw [e1]
                                           exact Int.mul_fdiv_cancel_left _ hc
    have f3 : d.fdiv (cdv a b d) = z := by conv => lhs; lhs; rw [e3]
                                           exact Int.mul_fdiv_cancel_left _ hc
    rw [f1, f3]
    generalize cdv a b d = c at *
    rw [e1, e3, Int.mul_assoc, Int.mul_left_comm]
  · obtain ⟨x, e1⟩ := d2
    obtain ⟨z, e3⟩ := d3
    have f1 : b.fdiv (cdv a b d) = x := by conv => lhs; lhs; rw [e1]
                                           exact Int.mul_fdiv_cancel_left _ hc
    have f3 : d.fdiv (cdv a b d) = z := by conv => lhs; lhs; rw [e3]
                                           exact Int.mul_fdiv_cancel_left _ hc
    rw [f1, f3]
    generalize cdv a b d = c at *
    rw [e1, e3, Int.mul_assoc, Int.mul_left_comm]
def isNum : D → Bool
  | .tup [a, b, c] => isI a && isI b && isI c && decide (1 ≤ nOf c)
  | _ => false
theorem num_len {xs : List D} (h : ¬ xs.length = 3) : isNum (.tup xs) = false := by
  match xs, h with
  | [], _ => rfl
  | [_], _ => rfl
  | [_, _], _ => rfl
  | [_, _, _], h => exact absurd rfl h
  | _ :: _ :: _ :: _ :: _, _ => rfl
theorem num_n {x : D} (h : isNum x = true) : ∃ a b c, x = tri a b c ∧ 1 ≤ c := by
  cases x with
  | tup xs =>
    by_cases hl : xs.length = 3
    · obtain ⟨a, b, c, rfl⟩ := len3 hl
      simp only [isNum, Bool.and_eq_true, decide_eq_true_eq] at h
      obtain ⟨⟨⟨h1, h2⟩, h3⟩, h4⟩ := h
      obtain ⟨i, rfl⟩ := isI_n h1
      obtain ⟨j, rfl⟩ := isI_n h2
      obtain ⟨k, rfl⟩ := isI_n h3
      exact ⟨i, j, k, rfl, h4⟩
    · rw [num_len hl] at h
      cases h
  | _ => cases h
theorem num_tri {a b c : Int} (h : 1 ≤ c) : isNum (tri a b c) = true := by
  show (true && true && true && decide (1 ≤ c)) = true
  simp [h]
/-- typed, and its parts are -/
def Ty1 (known : Str → Bool) (x : D) : Prop := tyX known x = true ∧ ∀ xs, x = .tup xs → ∀ y ∈ xs, tyX known y = true
theorem ty1_rp {known : Str → Bool} {x : D} (h : rp 64 x = true) : Ty1 known x := ⟨tyX_ty (rp_ty h), fun xs e y m => by
  subst e
  exact tyX_ty (rp_tup h y m)⟩
theorem ty1_tri {known : Str → Bool} (a b c : Int) : Ty1 known (tri a b c) := ⟨rfl, fun xs e y m => by
  cases e
  simp only [List.mem_cons, List.not_mem_nil, or_false] at m
  rcases m with rfl | rfl | rfl <;> rfl⟩
theorem ty1_obj {known : Str → Bool} {n : Str} {fs : List (Str × D)} (h : known n = true) : Ty1 known (.obj n fs) := ⟨h, fun _ e => by cases e⟩
end ND

/-! ND36: evaluation, more of it (first written for k11, k10) -/
namespace ND
open PySem PySem.Spec L2
abbrev Pt (x : D) : Prop := Pok 8 300 210000 x
theorem Pt.rokT {x : D} (h : Pt x) (nd : isDct (toPy x) = false) : Rok x := h.rok (by decide) (by decide) (by decide) nd
theorem c60 : (2 : Nat) ^ 240 ≤ 10 ^ 4300 := by decide +kernel
theorem c400 : (2 : Nat) ^ 400 ≤ 10 ^ 4300 := by decide +kernel
theorem ret_ev {σ : List SV} {f : GE} {x : D} {E : Ed} (h : Ev σ f x) (q : E.rt x) : gRet f E σ := h.run _ q
section
variable {σ xs : List SV} {f g : GE} {x y : D} {s t : GS} {E : Ed}
theorem seq_par2E {i j : Nat} (a : Ev σ f x) (b : Ev σ g y) (q : s E (setAll [i, j] [x, y] σ)) : gSeq (gPar [i, j] (ND.gCons f (ND.gCons g ND.gNil))) s E σ := a.run _ (b.run _ ⟨rfl, q⟩)
theorem seq_okF {k : Nat} (e : fz k σ = xs) (a : Ev xs f (.bl true)) (q : t E xs) : gSeq (gFz k (gIfS (gNotT (gTru f)) s gSkip)) t E σ := by
  subst e
  exact a.run _ (by simpa using q)
theorem Ev.ifb {b : Bool} {h : GE} (a : Ev σ f (.bl b)) (k1 : b = true → Ev σ g x) (k2 : b = false → Ev σ h x) : Ev σ (gIf (gTru f) g h) x := ⟨fun Q q => a.run _ (by
  cases b
  · simpa using (k2 rfl).run _ q
  · simpa using (k1 rfl).run _ q)⟩
theorem Ev.andb {b : Bool} (a : Ev σ f (.bl b)) (k1 : b = true → Ev σ g x) (k2 : b = false → x = .bl false) : Ev σ (gAnd f g) x := ⟨fun Q q => a.run _ (by
  cases b
  · have := k2 rfl
    subst this
    simpa using q
  · simpa using (k1 rfl).run _ q)⟩
end
section
variable {σ : List SV} {f g : GE} {x : D} {i j : Int} {known : Str → Bool}
theorem Ev.isx {T : String} {b : Bool} (h : Ev σ f x) (hk : knownT T = true) (hs : tyX known x = true) (hb : isiB T x = b) : Ev σ (gBlt (isiX known) (ND.gCons f (ND.gCons (gC (.opq (.ty T))) ND.gNil))) (.bl b) := ⟨fun Q q => h.run _ ⟨hk, hs, by rw [hb]; exact q⟩⟩
theorem Ev.mulI (h : Ev σ f (.int i)) (k : Ev σ g (.int j)) (o : MulOk i j) : Ev σ (gBin mulD f g) (.int (i * j)) := ⟨fun Q q => h.run _ (k.run _ ⟨o, q⟩)⟩
theorem Ev.abs (h : Ev σ f (.int i)) : Ev σ (gBlt absD (ND.gCons f ND.gNil)) (.int (if i < 0 then -i else i)) := ⟨fun Q q => h.run _ (by simpa [absD] using q)⟩
end
structure EvL (σ : List SV) (f : GA) (P : List D → Prop) : Prop where
  run : ∀ Q : List D → Prop, (∀ x, P x → Q x) → f σ Q
section
variable {σ : List SV} {f g h : GE} {fs fi : GA} {s s' t : GS} {E : Ed} {P P' P2 : D → Prop}
theorem seq_setT3 {i j k : Nat} (a : EvP σ f P) (b : EvP σ g P') (c : EvP σ h P2) (q : ∀ x y z, P x → P' y → P2 z → s E (setAll [i, j, k] [x, y, z] σ)) : gSeq (gSetT [i, j, k] (ND.gTup (ND.gCons f (ND.gCons g (ND.gCons h ND.gNil))))) s E σ :=
  a.run _ fun x hx => b.run _ fun y hy => c.run _ fun z hz => ⟨by simp, [x, y, z], rfl, rfl, q x y z hx hy hz⟩
theorem seq_setLP {k : Nat} {P : List D → Prop} (a : EvL σ fs P) (q : ∀ xs, P xs → s E (σ.set k (.ol xs))) : gSeq (gSetL k fs) s E σ := a.run _ q
theorem seq_setP {k : Nat} (a : EvP σ f P) (q : ∀ x, P x → s E (σ.set k (.d x))) : gSeq (gSet k f) s E σ := a.run _ q
theorem seq_ifP (a : EvP σ f fun x => ∃ b, x = .bl b) (q1 : gSeq s t E σ) (q2 : gSeq s' t E σ) : gSeq (gIfS (gB f) s s') t E σ := a.run _ fun x ⟨b, e⟩ => by
  subst e
  cases b
  · exact q2
  · exact q1
theorem seq_ifI {P : List SV → Prop} (h : EvP σ f fun x => ∃ b, x = .bl b) (rest : ∀ σ', P σ' → t E σ') (q1 : (∀ σ', P σ' → t E σ') → gSeq s t E σ) (q2 : (∀ σ', P σ' → t E σ') → gSeq s' t E σ) : gSeq (gIfS (gB f) s s') t E σ := seq_ifP h (q1 rest) (q2 rest)
theorem seq_setI {k j : Nat} {i : Int} {x : D} {xs : List D} (hk : σ[k]? = some (.ol xs)) (a : Ev σ f x) (b : Ev σ g (.int i)) (hj : ixN xs.length i = some j) (q : t E (σ.set k (.ol (xs.set j x)))) : gSeq (gSetI k f g) t E σ := ⟨xs, hk, a.run _ (b.run _ ⟨i, j, rfl, hj, q⟩)⟩
theorem Ev.varBl {n : Nat} {xs : List D} (h : σ[n]? = some (.ol xs)) : Ev σ (gVarB n) (.lst xs) := ⟨fun Q q => by
  unfold gVarB
  rw [h]
  exact q⟩
theorem Ev.varBd {n : Nat} {x : D} (h : σ[n]? = some (.d x)) : Ev σ (gVarB n) x := ⟨fun Q q => by
  unfold gVarB
  rw [h]
  exact q⟩
theorem Ev.ixl {xs : List D} {i : Int} {x : D} (a : Ev σ f (.lst xs)) (b : Ev σ g (.int i)) (h : atI xs i = some x) : Ev σ (gBin ixD f g) x := ⟨fun Q q => a.run _ (b.run _ ⟨x, h, q⟩)⟩
theorem Ev.ixt {xs : List D} {i : Int} {x : D} (a : Ev σ f (.tup xs)) (b : Ev σ g (.int i)) (h : atI xs i = some x) : Ev σ (gBin ixD f g) x := ⟨fun Q q => a.run _ (b.run _ ⟨x, h, q⟩)⟩
theorem seq_two (a : Ev σ f (.bl true)) (b : Ev σ g (.bl true)) (q : t E σ) : gSeq (gIfS (gOrT (gNotT (gTru f)) (gNotT (gTru g))) s gSkip) t E σ := by
  refine a.run _ ?_
  simp
  refine b.run _ ?_
  simpa using q
theorem if_two (a : Ev σ f (.bl true)) (b : Ev σ g (.bl true)) (q : E.nx σ) : gIfS (gOrT (gNotT (gTru f)) (gNotT (gTru g))) s gSkip E σ := by
  refine a.run _ ?_
  simp
  refine b.run _ ?_
  simpa using q
end
/-- many a small value of ints -/
theorem int_tup' {k : Nat} {ys : List D} (h : ∀ y ∈ ys, ∃ i, y = .int i ∧ Sz k i) : Pok 1 k (4303 * ys.length + 3) (.tup ys) ∧ Pok 1 k (4303 * ys.length + 3) (.lst ys) := by
  have : rps 0 ys = true ∧ sms (2 ^ k) ys = true ∧ rszs ys = 4303 * ys.length := by
    induction ys with
    | nil => simp [rps, sms, rszs]
    | cons y ys ih =>
      obtain ⟨i, rfl, hi⟩ := h y List.mem_cons_self
      obtain ⟨h1, h2, h3⟩ := ih fun z m => h z (List.mem_cons_of_mem _ m)
      refine ⟨by simp [rps, rp, h1], ?_, by simp [rszs, rsz, h3]; omega⟩
      simp only [sms, Bool.and_eq_true]
      exact ⟨hi.sm, h2⟩
  obtain ⟨h1, h2, h3⟩ := this
  exact ⟨h3 ▸ pok_tup h1 h2, h3 ▸ pok_lst h1 h2⟩
end ND

/-! ND37: == of any value and a value without dicts -/
namespace ND
open PySem PySem.SeqAt
section
open AutoSeq1 (wpAny_loadPart')
open MeetsSeq
def IsDct (h : Heap) (a : Addr) (es : Array DictEntry) : Prop := ∃ o, h.get? a = some o ∧ o.cls = .type "dict" ∧ ∃ n, o.data = .dict es n
theorem dict_eq_none (l : Addr) (es : Array DictEntry) (n : Nat) (dd : Option Addr) (sl : Array (Option Value))  :
    Meets (Builtin.«dict.__eq__» ⟨[.ref l, .none], []⟩) (fun _ R s => s.heap.get? l = some { cls := .type "dict", dict := dd, data := .dict es n, slots := sl } ∧ R (.ok (.ret .notImplemented)) s) :=
  .of_wp fun prog w A R s h => by obtain ⟨hp, g, d, tk, os⟩ := s; obtain ⟨hl, h⟩ := h; have f1 := F.sub_NoneType_dict; wp_walk using wpAny_loadPart' hl; exact ⟨_, rfl, h⟩
theorem dict_eq_bool (l : Addr) (es : Array DictEntry) (n : Nat) (dd : Option Addr) (sl : Array (Option Value)) (b : Bool) :
    Meets (Builtin.«dict.__eq__» ⟨[.ref l, .bool b], []⟩) (fun _ R s => s.heap.get? l = some { cls := .type "dict", dict := dd, data := .dict es n, slots := sl } ∧ R (.ok (.ret .notImplemented)) s) :=
  .of_wp fun prog w A R s h => by obtain ⟨hp, g, d, tk, os⟩ := s; obtain ⟨hl, h⟩ := h; have f1 := F.sub_bool_dict; wp_walk using wpAny_loadPart' hl; exact ⟨_, rfl, h⟩
theorem dict_eq_int (l : Addr) (es : Array DictEntry) (n : Nat) (dd : Option Addr) (sl : Array (Option Value)) (b : Int) (u : Tok) :
    Meets (Builtin.«dict.__eq__» ⟨[.ref l, .int b u], []⟩) (fun _ R s => s.heap.get? l = some { cls := .type "dict", dict := dd, data := .dict es n, slots := sl } ∧ R (.ok (.ret .notImplemented)) s) :=
  .of_wp fun prog w A R s h => by obtain ⟨hp, g, d, tk, os⟩ := s; obtain ⟨hl, h⟩ := h; have f1 := F.sub_int_dict; wp_walk using wpAny_loadPart' hl; exact ⟨_, rfl, h⟩
theorem dict_eq_str (l : Addr) (es : Array DictEntry) (n : Nat) (dd : Option Addr) (sl : Array (Option Value)) (b : Str) (u : Tok) :
    Meets (Builtin.«dict.__eq__» ⟨[.ref l, .str b u], []⟩) (fun _ R s => s.heap.get? l = some { cls := .type "dict", dict := dd, data := .dict es n, slots := sl } ∧ R (.ok (.ret .notImplemented)) s) :=
  .of_wp fun prog w A R s h => by obtain ⟨hp, g, d, tk, os⟩ := s; obtain ⟨hl, h⟩ := h; have f1 := F.sub_str_dict; wp_walk using wpAny_loadPart' hl; exact ⟨_, rfl, h⟩
theorem int_eq_dict_bool (b : Bool) (l : Addr) (es : Array DictEntry) (n : Nat) (dd : Option Addr) (sl : Array (Option Value)) :
    Meets (Builtin.«int.__eq__» ⟨[.bool b, .ref l], []⟩) (fun _ R s => s.heap.get? l = some { cls := .type "dict", dict := dd, data := .dict es n, slots := sl } ∧ R (.ok (.ret .notImplemented)) s) :=
  .of_wp fun prog w A R s h => by obtain ⟨hp, g, d, tk, os⟩ := s; obtain ⟨hl, h⟩ := h; wp_walk using wpAny_loadPart' hl, wpAny_load hl; exact ⟨_, rfl, h⟩
theorem int_eq_dict_int (b : Int) (u : Tok) (l : Addr) (es : Array DictEntry) (n : Nat) (dd : Option Addr) (sl : Array (Option Value)) :
    Meets (Builtin.«int.__eq__» ⟨[.int b u, .ref l], []⟩) (fun _ R s => s.heap.get? l = some { cls := .type "dict", dict := dd, data := .dict es n, slots := sl } ∧ R (.ok (.ret .notImplemented)) s) :=
  .of_wp fun prog w A R s h => by obtain ⟨hp, g, d, tk, os⟩ := s; obtain ⟨hl, h⟩ := h; wp_walk using wpAny_loadPart' hl, wpAny_load hl; exact ⟨_, rfl, h⟩
theorem str_eq_dict (b : Str) (u : Tok) (l : Addr) (es : Array DictEntry) (n : Nat) (dd : Option Addr) (sl : Array (Option Value)) :
    Meets (Builtin.«str.__eq__» ⟨[.str b u, .ref l], []⟩) (fun _ R s => s.heap.get? l = some { cls := .type "dict", dict := dd, data := .dict es n, slots := sl } ∧ R (.ok (.ret .notImplemented)) s) :=
  .of_wp fun prog w A R s h => by obtain ⟨hp, g, d, tk, os⟩ := s; obtain ⟨hl, h⟩ := h; wp_walk using wpAny_loadPart' hl, wpAny_load hl; exact ⟨_, rfl, h⟩
theorem list_eq_dict (l b : Addr) (items : Array Value) (es : Array DictEntry) (n n2 : Nat) (dd dd2 : Option Addr) (sl sl2 : Array (Option Value)) :
    Meets (Builtin.«list.__eq__» ⟨[.ref l, .ref b], []⟩) (fun _ R s => s.heap.get? l = some { cls := .type "list", dict := dd2, data := .seq items n2, slots := sl2 } ∧ s.heap.get? b = some { cls := .type "dict", dict := dd, data := .dict es n, slots := sl } ∧ R (.ok (.ret .notImplemented)) s) :=
  .of_wp fun prog w A R s h => by obtain ⟨hp, g, d, tk, os⟩ := s; obtain ⟨hl, hb, h⟩ := h; have f1 := F.sub_dict_list; wp_walk using wpAny_loadPart' hl, wpAny_loadPart' hb; exact ⟨_, rfl, h⟩
theorem dict_eq_list (l b : Addr) (items : Array Value) (es : Array DictEntry) (n n2 : Nat) (dd dd2 : Option Addr) (sl sl2 : Array (Option Value)) :
    Meets (Builtin.«dict.__eq__» ⟨[.ref l, .ref b], []⟩) (fun _ R s => s.heap.get? l = some { cls := .type "dict", dict := dd, data := .dict es n, slots := sl } ∧ s.heap.get? b = some { cls := .type "list", dict := dd2, data := .seq items n2, slots := sl2 } ∧ R (.ok (.ret .notImplemented)) s) :=
  .of_wp fun prog w A R s h => by obtain ⟨hp, g, d, tk, os⟩ := s; obtain ⟨hl, hb, h⟩ := h; have f1 := F.sub_list_dict; wp_walk using wpAny_loadPart' hl, wpAny_loadPart' hb; exact ⟨_, rfl, h⟩
theorem tuple_eq_dict (l b : Addr) (items : Array Value) (es : Array DictEntry) (n n2 : Nat) (dd dd2 : Option Addr) (sl sl2 : Array (Option Value)) :
    Meets (Builtin.«tuple.__eq__» ⟨[.ref l, .ref b], []⟩) (fun _ R s => s.heap.get? l = some { cls := .type "tuple", dict := dd2, data := .seq items n2, slots := sl2 } ∧ s.heap.get? b = some { cls := .type "dict", dict := dd, data := .dict es n, slots := sl } ∧ R (.ok (.ret .notImplemented)) s) :=
  .of_wp fun prog w A R s h => by obtain ⟨hp, g, d, tk, os⟩ := s; obtain ⟨hl, hb, h⟩ := h; have f1 := F.sub_dict_tuple; wp_walk using wpAny_loadPart' hl, wpAny_loadPart' hb; exact ⟨_, rfl, h⟩
theorem dict_eq_tuple (l b : Addr) (items : Array Value) (es : Array DictEntry) (n n2 : Nat) (dd dd2 : Option Addr) (sl sl2 : Array (Option Value)) :
    Meets (Builtin.«dict.__eq__» ⟨[.ref l, .ref b], []⟩) (fun _ R s => s.heap.get? l = some { cls := .type "dict", dict := dd, data := .dict es n, slots := sl } ∧ s.heap.get? b = some { cls := .type "tuple", dict := dd2, data := .seq items n2, slots := sl2 } ∧ R (.ok (.ret .notImplemented)) s) :=
  .of_wp fun prog w A R s h => by obtain ⟨hp, g, d, tk, os⟩ := s; obtain ⟨hl, hb, h⟩ := h; have f1 := F.sub_tuple_dict; wp_walk using wpAny_loadPart' hl, wpAny_loadPart' hb; exact ⟨_, rfl, h⟩
variable {A : Around} {s : Shared}
theorem rc_dict_none {l : Addr} {es : Array DictEntry}  (hl : IsDct s.heap l es) (hu : A.units < cLine) : RcAt A s (.ref l) (.none) false := fun prog w E Q h => by
  obtain ⟨⟨cls, dd, data, sl⟩, ho, hc, n, hd⟩ := id hl
  simp only at hc hd
  subst hc hd
  exact rc_eq_decline_or (k := false) ⟨_, ho, rfl⟩ rfl (by decide) F.sub_NoneType_dict F.slot_dict_eq F.slot_NoneType_eq_refl
    (fun _ hq => call_meets F.slot_dict_eq ⟨_, ho, rfl⟩ F.entry_dict_eq (F.args_dict_eq_2 _ _) (dict_eq_none l es n dd sl ) ⟨ho, hq⟩)
    (fun _ hq => call_gives F.slot_NoneType_eq_refl rfl F.entry_NoneType_eq (F.args_NoneType_eq_2 _ _) (NoneType___eq___none_ref_0 l) hq)
    (fun _ hq => wpAny_of_eq (rfl : isSame (.ref l) (.none) = pure false) hq) (.inr hu) h
theorem eq_dict_none {l : Addr} {es : Array DictEntry}  (hl : IsDct s.heap l es) (hu : A.units < cLine) : EqAt A s (.ref l) (.none) false := fun prog w E Q h => by
  unfold eqBool
  refine wpAny_holding ?_
  refine wpAny_ite_split (fun hab => absurd (eq_of_beq hab) nofun) (fun _ => ?_)
  exact wpAny_bind (rc_dict_none  hl hu prog w E _ (wpAny_truthy_bool h))
theorem rc_none_dict {l : Addr} {es : Array DictEntry}  (hl : IsDct s.heap l es) (hu : A.units < cLine) : RcAt A s (.none) (.ref l) false := fun prog w E Q h => by
  obtain ⟨⟨cls, dd, data, sl⟩, ho, hc, n, hd⟩ := id hl
  simp only at hc hd
  subst hc hd
  exact rc_eq_decline_or (k := false) rfl ⟨_, ho, rfl⟩ (by decide) F.sub_dict_NoneType F.slot_NoneType_eq F.slot_dict_eq_refl
    (fun _ hq => call_gives F.slot_NoneType_eq rfl F.entry_NoneType_eq (F.args_NoneType_eq_2 _ _) (NoneType___eq___none_ref_0 l) hq)
    (fun _ hq => call_meets F.slot_dict_eq_refl ⟨_, ho, rfl⟩ F.entry_dict_eq (F.args_dict_eq_2 _ _) (dict_eq_none l es n dd sl ) ⟨ho, hq⟩)
    (fun _ hq => wpAny_of_eq (rfl : isSame (.none) (.ref l) = pure false) hq) (.inr hu) h
theorem eq_none_dict {l : Addr} {es : Array DictEntry}  (hl : IsDct s.heap l es) (hu : A.units < cLine) : EqAt A s (.none) (.ref l) false := fun prog w E Q h => by
  unfold eqBool
  refine wpAny_holding ?_
  refine wpAny_ite_split (fun hab => absurd (eq_of_beq hab) nofun) (fun _ => ?_)
  exact wpAny_bind (rc_none_dict  hl hu prog w E _ (wpAny_truthy_bool h))
theorem rc_dict_bool {l : Addr} {es : Array DictEntry} (b : Bool) (hl : IsDct s.heap l es) (hu : A.units < cLine) : RcAt A s (.ref l) (.bool b) false := fun prog w E Q h => by
  obtain ⟨⟨cls, dd, data, sl⟩, ho, hc, n, hd⟩ := id hl
  simp only at hc hd
  subst hc hd
  exact rc_eq_decline_or (k := false) ⟨_, ho, rfl⟩ rfl (by decide) F.sub_bool_dict F.slot_dict_eq F.slot_bool_eq_refl
    (fun _ hq => call_meets F.slot_dict_eq ⟨_, ho, rfl⟩ F.entry_dict_eq (F.args_dict_eq_2 _ _) (dict_eq_bool l es n dd sl b) ⟨ho, hq⟩)
    (fun _ hq => call_meets F.slot_bool_eq_refl rfl F.entry_int_eq (F.args_int_eq_2 _ _) (int_eq_dict_bool b l es n dd sl) ⟨ho, hq⟩)
    (fun _ hq => wpAny_of_eq (rfl : isSame (.ref l) (.bool b) = pure false) hq) (.inr hu) h
theorem eq_dict_bool {l : Addr} {es : Array DictEntry} (b : Bool) (hl : IsDct s.heap l es) (hu : A.units < cLine) : EqAt A s (.ref l) (.bool b) false := fun prog w E Q h => by
  unfold eqBool
  refine wpAny_holding ?_
  refine wpAny_ite_split (fun hab => absurd (eq_of_beq hab) nofun) (fun _ => ?_)
  exact wpAny_bind (rc_dict_bool b hl hu prog w E _ (wpAny_truthy_bool h))
theorem rc_bool_dict {l : Addr} {es : Array DictEntry} (b : Bool) (hl : IsDct s.heap l es) (hu : A.units < cLine) : RcAt A s (.bool b) (.ref l) false := fun prog w E Q h => by
  obtain ⟨⟨cls, dd, data, sl⟩, ho, hc, n, hd⟩ := id hl
  simp only at hc hd
  subst hc hd
  exact rc_eq_decline_or (k := false) rfl ⟨_, ho, rfl⟩ (by decide) F.sub_dict_bool F.slot_bool_eq F.slot_dict_eq_refl
    (fun _ hq => call_meets F.slot_bool_eq rfl F.entry_int_eq (F.args_int_eq_2 _ _) (int_eq_dict_bool b l es n dd sl) ⟨ho, hq⟩)
    (fun _ hq => call_meets F.slot_dict_eq_refl ⟨_, ho, rfl⟩ F.entry_dict_eq (F.args_dict_eq_2 _ _) (dict_eq_bool l es n dd sl b) ⟨ho, hq⟩)
    (fun _ hq => wpAny_of_eq (rfl : isSame (.bool b) (.ref l) = pure false) hq) (.inr hu) h
theorem eq_bool_dict {l : Addr} {es : Array DictEntry} (b : Bool) (hl : IsDct s.heap l es) (hu : A.units < cLine) : EqAt A s (.bool b) (.ref l) false := fun prog w E Q h => by
  unfold eqBool
  refine wpAny_holding ?_
  refine wpAny_ite_split (fun hab => absurd (eq_of_beq hab) nofun) (fun _ => ?_)
  exact wpAny_bind (rc_bool_dict b hl hu prog w E _ (wpAny_truthy_bool h))
theorem rc_dict_int {l : Addr} {es : Array DictEntry} (b : Int) (u : Tok) (hl : IsDct s.heap l es) (hu : A.units < cLine) : RcAt A s (.ref l) (.int b u) false := fun prog w E Q h => by
  obtain ⟨⟨cls, dd, data, sl⟩, ho, hc, n, hd⟩ := id hl
  simp only at hc hd
  subst hc hd
  exact rc_eq_decline_or (k := false) ⟨_, ho, rfl⟩ rfl (by decide) F.sub_int_dict F.slot_dict_eq F.slot_int_eq_refl
    (fun _ hq => call_meets F.slot_dict_eq ⟨_, ho, rfl⟩ F.entry_dict_eq (F.args_dict_eq_2 _ _) (dict_eq_int l es n dd sl b u) ⟨ho, hq⟩)
    (fun _ hq => call_meets F.slot_int_eq_refl rfl F.entry_int_eq (F.args_int_eq_2 _ _) (int_eq_dict_int b u l es n dd sl) ⟨ho, hq⟩)
    (fun _ hq => wpAny_of_eq (rfl : isSame (.ref l) (.int b u) = pure false) hq) (.inr hu) h
theorem eq_dict_int {l : Addr} {es : Array DictEntry} (b : Int) (u : Tok) (hl : IsDct s.heap l es) (hu : A.units < cLine) : EqAt A s (.ref l) (.int b u) false := fun prog w E Q h => by
  unfold eqBool
  refine wpAny_holding ?_
  refine wpAny_ite_split (fun hab => absurd (eq_of_beq hab) nofun) (fun _ => ?_)
  exact wpAny_bind (rc_dict_int b u hl hu prog w E _ (wpAny_truthy_bool h))
theorem rc_int_dict {l : Addr} {es : Array DictEntry} (b : Int) (u : Tok) (hl : IsDct s.heap l es) (hu : A.units < cLine) : RcAt A s (.int b u) (.ref l) false := fun prog w E Q h => by
  obtain ⟨⟨cls, dd, data, sl⟩, ho, hc, n, hd⟩ := id hl
  simp only at hc hd
  subst hc hd
  exact rc_eq_decline_or (k := false) rfl ⟨_, ho, rfl⟩ (by decide) F.sub_dict_int F.slot_int_eq F.slot_dict_eq_refl
    (fun _ hq => call_meets F.slot_int_eq rfl F.entry_int_eq (F.args_int_eq_2 _ _) (int_eq_dict_int b u l es n dd sl) ⟨ho, hq⟩)
    (fun _ hq => call_meets F.slot_dict_eq_refl ⟨_, ho, rfl⟩ F.entry_dict_eq (F.args_dict_eq_2 _ _) (dict_eq_int l es n dd sl b u) ⟨ho, hq⟩)
    (fun _ hq => wpAny_of_eq (rfl : isSame (.int b u) (.ref l) = pure false) hq) (.inr hu) h
theorem eq_int_dict {l : Addr} {es : Array DictEntry} (b : Int) (u : Tok) (hl : IsDct s.heap l es) (hu : A.units < cLine) : EqAt A s (.int b u) (.ref l) false := fun prog w E Q h => by
  unfold eqBool
  refine wpAny_holding ?_
  refine wpAny_ite_split (fun hab => absurd (eq_of_beq hab) nofun) (fun _ => ?_)
  exact wpAny_bind (rc_int_dict b u hl hu prog w E _ (wpAny_truthy_bool h))
theorem rc_dict_str {l : Addr} {es : Array DictEntry} (b : Str) (u : Tok) (hl : IsDct s.heap l es) (hu : A.units < cLine) : RcAt A s (.ref l) (.str b u) false := fun prog w E Q h => by
  obtain ⟨⟨cls, dd, data, sl⟩, ho, hc, n, hd⟩ := id hl
  simp only at hc hd
  subst hc hd
  exact rc_eq_decline_or (k := false) ⟨_, ho, rfl⟩ rfl (by decide) F.sub_str_dict F.slot_dict_eq F.slot_str_eq_refl
    (fun _ hq => call_meets F.slot_dict_eq ⟨_, ho, rfl⟩ F.entry_dict_eq (F.args_dict_eq_2 _ _) (dict_eq_str l es n dd sl b u) ⟨ho, hq⟩)
    (fun _ hq => call_meets F.slot_str_eq_refl rfl F.entry_str_eq (F.args_str_eq_2 _ _) (str_eq_dict b u l es n dd sl) ⟨ho, hq⟩)
    (fun _ hq => wpAny_of_eq (rfl : isSame (.ref l) (.str b u) = pure false) hq) (.inr hu) h
theorem eq_dict_str {l : Addr} {es : Array DictEntry} (b : Str) (u : Tok) (hl : IsDct s.heap l es) (hu : A.units < cLine) : EqAt A s (.ref l) (.str b u) false := fun prog w E Q h => by
  unfold eqBool
  refine wpAny_holding ?_
  refine wpAny_ite_split (fun hab => absurd (eq_of_beq hab) nofun) (fun _ => ?_)
  exact wpAny_bind (rc_dict_str b u hl hu prog w E _ (wpAny_truthy_bool h))
theorem rc_str_dict {l : Addr} {es : Array DictEntry} (b : Str) (u : Tok) (hl : IsDct s.heap l es) (hu : A.units < cLine) : RcAt A s (.str b u) (.ref l) false := fun prog w E Q h => by
  obtain ⟨⟨cls, dd, data, sl⟩, ho, hc, n, hd⟩ := id hl
  simp only at hc hd
  subst hc hd
  exact rc_eq_decline_or (k := false) rfl ⟨_, ho, rfl⟩ (by decide) F.sub_dict_str F.slot_str_eq F.slot_dict_eq_refl
    (fun _ hq => call_meets F.slot_str_eq rfl F.entry_str_eq (F.args_str_eq_2 _ _) (str_eq_dict b u l es n dd sl) ⟨ho, hq⟩)
    (fun _ hq => call_meets F.slot_dict_eq_refl ⟨_, ho, rfl⟩ F.entry_dict_eq (F.args_dict_eq_2 _ _) (dict_eq_str l es n dd sl b u) ⟨ho, hq⟩)
    (fun _ hq => wpAny_of_eq (rfl : isSame (.str b u) (.ref l) = pure false) hq) (.inr hu) h
theorem eq_str_dict {l : Addr} {es : Array DictEntry} (b : Str) (u : Tok) (hl : IsDct s.heap l es) (hu : A.units < cLine) : EqAt A s (.str b u) (.ref l) false := fun prog w E Q h => by
  unfold eqBool
  refine wpAny_holding ?_
  refine wpAny_ite_split (fun hab => absurd (eq_of_beq hab) nofun) (fun _ => ?_)
  exact wpAny_bind (rc_str_dict b u hl hu prog w E _ (wpAny_truthy_bool h))
theorem ne_list_dict {h : Heap} {l b : Addr} {items : Array Value} {es : Array DictEntry} (hl : h.IsList l items) (hb : IsDct h b es) : l ≠ b := fun e => by
  subst e
  obtain ⟨o, ho, hc, _⟩ := hl
  obtain ⟨o2, ho2, hc2, _⟩ := hb
  cases Option.some.inj (ho.symm.trans ho2)
  rw [hc] at hc2
  exact absurd hc2 (by simp)
theorem rc_list_dict {l b : Addr} {items : Array Value} {es : Array DictEntry} (hl : s.heap.IsList l items) (hb : IsDct s.heap b es) (hu : A.units < cLine) : RcAt A s (.ref l) (.ref b) false := fun prog w E Q h => by
  have hne := ne_list_dict hl hb
  obtain ⟨⟨cls, dd2, data, sl2⟩, ho, hc, n2, hd⟩ := id hl
  obtain ⟨⟨cls2, dd, data2, sl⟩, ho2, hc2, n, hd2⟩ := id hb
  simp only at hc hd hc2 hd2
  subst hc hd hc2 hd2
  exact (rc_eq_decline_or (k := false) ⟨_, ho, rfl⟩ ⟨_, ho2, rfl⟩ (by decide) F.sub_dict_list F.slot_list_eq F.slot_dict_eq_refl
    (fun _ hq => call_meets F.slot_list_eq ⟨_, ho, rfl⟩ F.entry_list_eq (F.args_list_eq_2 _ _) (list_eq_dict l b items es n n2 dd dd2 sl sl2) ⟨ho, ho2, hq⟩)
    (fun _ hq => call_meets F.slot_dict_eq_refl ⟨_, ho2, rfl⟩ F.entry_dict_eq (F.args_dict_eq_2 _ _) (dict_eq_list b l items es n n2 dd dd2 sl sl2) ⟨ho2, ho, hq⟩)
    (fun _ hq => wpAny_isSame_ref_other hne ho ho2 (by simp) hq) (.inr hu) h)
theorem rc_dict_list {l b : Addr} {items : Array Value} {es : Array DictEntry} (hl : IsDct s.heap l es) (hb : s.heap.IsList b items) (hu : A.units < cLine) : RcAt A s (.ref l) (.ref b) false := fun prog w E Q h => by
  have hne : l ≠ b := (ne_list_dict hb hl).symm
  obtain ⟨⟨cls, dd, data, sl⟩, ho, hc, n, hd⟩ := id hl
  obtain ⟨⟨cls2, dd2, data2, sl2⟩, ho2, hc2, n2, hd2⟩ := id hb
  simp only at hc hd hc2 hd2
  subst hc hd hc2 hd2
  exact (rc_eq_decline_or (k := false) ⟨_, ho, rfl⟩ ⟨_, ho2, rfl⟩ (by decide) F.sub_list_dict F.slot_dict_eq F.slot_list_eq_refl
    (fun _ hq => call_meets F.slot_dict_eq ⟨_, ho, rfl⟩ F.entry_dict_eq (F.args_dict_eq_2 _ _) (dict_eq_list l b items es n n2 dd dd2 sl sl2) ⟨ho, ho2, hq⟩)
    (fun _ hq => call_meets F.slot_list_eq_refl ⟨_, ho2, rfl⟩ F.entry_list_eq (F.args_list_eq_2 _ _) (list_eq_dict b l items es n n2 dd dd2 sl sl2) ⟨ho2, ho, hq⟩)
    (fun _ hq => wpAny_isSame_ref_other hne ho ho2 (by simp) hq) (.inr hu) h)
theorem ne_tuple_dict {h : Heap} {l b : Addr} {items : Array Value} {es : Array DictEntry} (hl : h.IsTuple l items) (hb : IsDct h b es) : l ≠ b := fun e => by
  subst e
  obtain ⟨o, ho, hc, _⟩ := hl
  obtain ⟨o2, ho2, hc2, _⟩ := hb
  cases Option.some.inj (ho.symm.trans ho2)
  rw [hc] at hc2
  exact absurd hc2 (by simp)
theorem rc_tuple_dict {l b : Addr} {items : Array Value} {es : Array DictEntry} (hl : s.heap.IsTuple l items) (hb : IsDct s.heap b es) (hu : A.units < cLine) : RcAt A s (.ref l) (.ref b) false := fun prog w E Q h => by
  have hne := ne_tuple_dict hl hb
  obtain ⟨⟨cls, dd2, data, sl2⟩, ho, hc, n2, hd⟩ := id hl
  obtain ⟨⟨cls2, dd, data2, sl⟩, ho2, hc2, n, hd2⟩ := id hb
  simp only at hc hd hc2 hd2
  subst hc hd hc2 hd2
  exact (rc_eq_decline_or (k := false) ⟨_, ho, rfl⟩ ⟨_, ho2, rfl⟩ (by decide) F.sub_dict_tuple F.slot_tuple_eq F.slot_dict_eq_refl
    (fun _ hq => call_meets F.slot_tuple_eq ⟨_, ho, rfl⟩ F.entry_tuple_eq (F.args_tuple_eq_2 _ _) (tuple_eq_dict l b items es n n2 dd dd2 sl sl2) ⟨ho, ho2, hq⟩)
    (fun _ hq => call_meets F.slot_dict_eq_refl ⟨_, ho2, rfl⟩ F.entry_dict_eq (F.args_dict_eq_2 _ _) (dict_eq_tuple b l items es n n2 dd dd2 sl sl2) ⟨ho2, ho, hq⟩)
    (fun _ hq => wpAny_isSame_ref_other' hne ho ho2 (by simp) hq) (.inr hu) h)
theorem rc_dict_tuple {l b : Addr} {items : Array Value} {es : Array DictEntry} (hl : IsDct s.heap l es) (hb : s.heap.IsTuple b items) (hu : A.units < cLine) : RcAt A s (.ref l) (.ref b) false := fun prog w E Q h => by
  have hne : l ≠ b := (ne_tuple_dict hb hl).symm
  obtain ⟨⟨cls, dd, data, sl⟩, ho, hc, n, hd⟩ := id hl
  obtain ⟨⟨cls2, dd2, data2, sl2⟩, ho2, hc2, n2, hd2⟩ := id hb
  simp only at hc hd hc2 hd2
  subst hc hd hc2 hd2
  exact (rc_eq_decline_or (k := false) ⟨_, ho, rfl⟩ ⟨_, ho2, rfl⟩ (by decide) F.sub_tuple_dict F.slot_dict_eq F.slot_tuple_eq_refl
    (fun _ hq => call_meets F.slot_dict_eq ⟨_, ho, rfl⟩ F.entry_dict_eq (F.args_dict_eq_2 _ _) (dict_eq_tuple l b items es n n2 dd dd2 sl sl2) ⟨ho, ho2, hq⟩)
    (fun _ hq => call_meets F.slot_tuple_eq_refl ⟨_, ho2, rfl⟩ F.entry_tuple_eq (F.args_tuple_eq_2 _ _) (tuple_eq_dict b l items es n n2 dd dd2 sl sl2) ⟨ho2, ho, hq⟩)
    (fun _ hq => wpAny_isSame_ref_other hne ho ho2 (by simp) hq) (.inr hu) h)
theorem canAny {x y : PyData} (h : x.canLay0 = true ∨ y.canLay0 = true) : True := trivial
theorem reads_same {h : Heap} {d d' : PyData} {v : Value} {as as' : List Addr} (k : d.canLay0 = true ∨ d'.canLay0 = true) (r : Reads h v d as) (r' : Reads h v d' as') : d = d' ∧ d.canLay0 = true := by
  rcases k with k | k
  · exact ⟨Reads.unique d d' v as as' k r r', k⟩
  · have := Reads.unique d' d v as' as k r' r
    subst this
    exact ⟨rfl, k⟩
theorem or_list {xs ys : List PyData} (h : (PyData.list xs).canLay0 = true ∨ (PyData.list ys).canLay0 = true) : PyData.canLayAll0 xs = true ∨ PyData.canLayAll0 ys = true := by simpa only [PyData.canLay0] using h
theorem or_tuple {xs ys : List PyData} (h : (PyData.tuple xs).canLay0 = true ∨ (PyData.tuple ys).canLay0 = true) : PyData.canLayAll0 xs = true ∨ PyData.canLayAll0 ys = true := by simpa only [PyData.canLay0] using h
theorem or_cons {x y : PyData} {xs ys : List PyData} (h : PyData.canLayAll0 (x :: xs) = true ∨ PyData.canLayAll0 (y :: ys) = true) : (x.canLay0 = true ∨ y.canLay0 = true) ∧ (PyData.canLayAll0 xs = true ∨ PyData.canLayAll0 ys = true) := by
  simp only [PyData.canLayAll0, Bool.and_eq_true] at h
  rcases h with h | h
  · exact ⟨.inl h.1, .inl h.2⟩
  · exact ⟨.inr h.1, .inr h.2⟩
mutual
theorem eqAny : ∀ (da db : PyData) (A : Around) (s : Shared) (a b : Value) (as bs : List Addr), Reads s.heap a da as → Reads s.heap b db bs → (da.canLay0 = true ∨ db.canLay0 = true) →
    A.units + min da.depth db.depth < cLine → EqAt A s a b (PyData.eqv da db)
  | .none, _, A, s, _, _, _, _, ra, rb, _, hu => by
    cases ra
    cases rb with
    | none => exact EqAt.same _
    | bool y => exact EqAt.none_bool y
    | int y u => exact EqAt.none_int y u
    | str y u => exact EqAt.none_str y u
    | list k1 k2 k3 k4 => exact EqAt.none_list ⟨_, k1, k2, _, k3⟩ (room_here hu)
    | tuple k1 k2 k3 k4 => exact EqAt.none_tuple ⟨_, k1, k2, _, k3⟩ (room_here hu)
    | dict k1 k2 k3 _ _ => exact eq_none_dict ⟨_, k1, k2, _, k3⟩ (room_here hu)
  | .bool x, _, A, s, _, _, _, _, ra, rb, _, hu => by
    cases ra
    cases rb with
    | none => exact EqAt.bool_none x
    | bool y => exact EqAt.bool_bool x y
    | int y u => exact EqAt.bool_int x y u
    | str y u => exact EqAt.bool_str x y u
    | list k1 k2 k3 k4 => exact EqAt.bool_list x ⟨_, k1, k2, _, k3⟩ (room_here hu)
    | tuple k1 k2 k3 k4 => exact EqAt.bool_tuple x ⟨_, k1, k2, _, k3⟩ (room_here hu)
    | dict k1 k2 k3 _ _ => exact eq_bool_dict x ⟨_, k1, k2, _, k3⟩ (room_here hu)
  | .int x, _, A, s, _, _, _, _, ra, rb, _, hu => by
    cases ra with
    | int _ t =>
      cases rb with
      | none => exact EqAt.int_none x t
      | bool y => exact EqAt.int_bool x t y
      | int y u => exact EqAt.int_int x t y u
      | str y u => exact EqAt.int_str x t y u
      | list k1 k2 k3 k4 => exact EqAt.int_list x t ⟨_, k1, k2, _, k3⟩ (room_here hu)
      | tuple k1 k2 k3 k4 => exact EqAt.int_tuple x t ⟨_, k1, k2, _, k3⟩ (room_here hu)
      | dict k1 k2 k3 _ _ => exact eq_int_dict x t ⟨_, k1, k2, _, k3⟩ (room_here hu)
  | .str x, _, A, s, _, _, _, _, ra, rb, _, hu => by
    cases ra with
    | str _ t =>
      cases rb with
      | none => exact EqAt.str_none x t
      | bool y => exact EqAt.str_bool x t y
      | int y u => exact EqAt.str_int x t y u
      | str y u => exact EqAt.str_str x t y u
      | list k1 k2 k3 k4 => exact EqAt.str_list x t ⟨_, k1, k2, _, k3⟩ (room_here hu)
      | tuple k1 k2 k3 k4 => exact EqAt.str_tuple x t ⟨_, k1, k2, _, k3⟩ (room_here hu)
      | dict k1 k2 k3 _ _ => exact eq_str_dict x t ⟨_, k1, k2, _, k3⟩ (room_here hu)
  | .list xs, db, A, s, _, _, _, _, ra, rb, hc, hu => by
    cases ra with
    | @list l o vs n _ as₁ h1 h2 h3 h4 =>
      have hl : s.heap.IsList l vs := ⟨_, h1, h2, _, h3⟩
      cases rb with
      | none => exact EqAt.list_none hl (room_here hu)
      | bool y => exact EqAt.list_bool y hl (room_here hu)
      | int y u => exact EqAt.list_int y u hl (room_here hu)
      | str y u => exact EqAt.list_str y u hl (room_here hu)
      | tuple k1 k2 k3 k4 => exact EqAt.list_tuple hl ⟨_, k1, k2, _, k3⟩ (room_here hu)
      | dict k1 k2 k3 _ _ => exact .of_refs (ne_list_dict hl ⟨_, k1, k2, _, k3⟩) (rc_list_dict hl ⟨_, k1, k2, _, k3⟩ (room_here hu))
      | @list l' o' vs' n' ys bs₁ k1 k2 k3 k4 =>
        have hl' : s.heap.IsList l' vs' := ⟨_, k1, k2, _, k3⟩
        have n1 : vs.size = xs.length := by simpa using ReadsAll.length _ _ _ h4
        have n2 : vs'.size = ys.length := by simpa using ReadsAll.length _ _ _ k4
        show EqAt A s (.ref l) (.ref l') (PyData.eqvAll xs ys)
        by_cases hll : l = l'
        · subst hll
          obtain ⟨e, ha⟩ := reads_same hc (.list h1 h2 h3 h4) (.list k1 k2 k3 k4)
          injection e with e
          subst e
          rw [eqvAll_refl xs ha]
          exact EqAt.same _
        · by_cases hsz : vs.size = vs'.size
          · rw [← eqvAll_same_length (by omega : xs.length = ys.length), ← n1]
            refine EqAt.of_refs hll (RcAt.lists hl hl' hsz (room_here hu) fun j j1 j2 => ?_)
            have := eqAnyAll xs ys A.in1 s vs.toList vs'.toList _ _ h4 k4 (or_list hc) (room_in hu) j (by simpa using j1) (by simpa using j2)
            simpa using this
          · rw [eqvAll_other_length (by omega : xs.length ≠ ys.length)]
            exact EqAt.of_refs hll (RcAt.lists_lengths hl hl' (by simpa using hsz) (room_here hu))
  | .tuple xs, db, A, s, _, _, _, _, ra, rb, hc, hu => by
    cases ra with
    | @tuple l o vs n _ as₁ h1 h2 h3 h4 =>
      have hl : s.heap.IsTuple l vs := ⟨_, h1, h2, _, h3⟩
      cases rb with
      | none => exact EqAt.tuple_none hl (room_here hu)
      | bool y => exact EqAt.tuple_bool y hl (room_here hu)
      | int y u => exact EqAt.tuple_int y u hl (room_here hu)
      | str y u => exact EqAt.tuple_str y u hl (room_here hu)
      | list k1 k2 k3 k4 => exact EqAt.tuple_list hl ⟨_, k1, k2, _, k3⟩ (room_here hu)
      | dict k1 k2 k3 _ _ => exact .of_refs (ne_tuple_dict hl ⟨_, k1, k2, _, k3⟩) (rc_tuple_dict hl ⟨_, k1, k2, _, k3⟩ (room_here hu))
      | @tuple l' o' vs' n' ys bs₁ k1 k2 k3 k4 =>
        have hl' : s.heap.IsTuple l' vs' := ⟨_, k1, k2, _, k3⟩
        have n1 : vs.size = xs.length := by simpa using ReadsAll.length _ _ _ h4
        have n2 : vs'.size = ys.length := by simpa using ReadsAll.length _ _ _ k4
        show EqAt A s (.ref l) (.ref l') (PyData.eqvAll xs ys)
        by_cases hll : l = l'
        · subst hll
          obtain ⟨e, ha⟩ := reads_same hc (.tuple h1 h2 h3 h4) (.tuple k1 k2 k3 k4)
          injection e with e
          subst e
          rw [eqvAll_refl xs ha]
          exact EqAt.same _
        · rw [← eqvAll_eq xs ys, ← n1, ← n2]
          refine EqAt.of_refs hll (RcAt.tuples hl hl' (room_here hu) fun j j1 j2 => ?_)
          have := eqAnyAll xs ys A.in1 s vs.toList vs'.toList _ _ h4 k4 (or_tuple hc) (room_in hu) j (by simpa using j1) (by simpa using j2)
          simpa using this
  | .dict xs, db, A, s, _, _, _, _, ra, rb, hc, hu => by
    cases ra with
    | @dict l o es n _ as₁ bs₁ h1 h2 h3 h4 h5 =>
      have hl : IsDct s.heap l es := ⟨_, h1, h2, _, h3⟩
      cases rb with
      | none => exact eq_dict_none hl (room_here hu)
      | bool y => exact eq_dict_bool y hl (room_here hu)
      | int y u => exact eq_dict_int y u hl (room_here hu)
      | str y u => exact eq_dict_str y u hl (room_here hu)
      | list k1 k2 k3 k4 => exact .of_refs (ne_list_dict ⟨_, k1, k2, _, k3⟩ hl).symm (rc_dict_list hl ⟨_, k1, k2, _, k3⟩ (room_here hu))
      | tuple k1 k2 k3 k4 => exact .of_refs (ne_tuple_dict ⟨_, k1, k2, _, k3⟩ hl).symm (rc_dict_tuple hl ⟨_, k1, k2, _, k3⟩ (room_here hu))
      | dict k1 k2 k3 _ _ => simp [PyData.canLay0] at hc
theorem eqAnyAll : ∀ (xs ys : List PyData) (A : Around) (s : Shared) (vs ws : List Value) (as bs : List Addr), ReadsAll s.heap vs xs as → ReadsAll s.heap ws ys bs → (PyData.canLayAll0 xs = true ∨ PyData.canLayAll0 ys = true) →
    A.units + min (PyData.depthAll xs) (PyData.depthAll ys) < cLine → ∀ j (h1 : j < vs.length) (h2 : j < ws.length), EqAt A s vs[j] ws[j] (pairEq xs ys j)
  | [], _, _, _, _, _, _, _, ra, _, _, _, j, h1, _ => by cases ra; exact absurd h1 (Nat.not_lt_zero _)
  | _ :: _, [], _, _, _, _, _, _, _, rb, _, _, j, _, h2 => by cases rb; exact absurd h2 (Nat.not_lt_zero _)
  | x :: xs, y :: ys, A, s, _, _, _, _, ra, rb, hc, hu, j, h1, h2 => by
    obtain ⟨hc1, hc2⟩ := or_cons hc
    cases ra with
    | cons r rs =>
      cases rb with
      | cons r' rs' =>
        cases j with
        | zero => exact eqAny x y A s _ _ _ _ r r' hc1 (room_head hu)
        | succ j => exact eqAnyAll xs ys A s _ _ _ _ rs rs' hc2 (room_tail hu) j (Nat.lt_of_succ_lt_succ h1) (Nat.lt_of_succ_lt_succ h2)
end
theorem rcAny {da db : PyData} {A : Around} {s : Shared} {a b : Value} {as bs : List Addr} (ra : Reads s.heap a da as) (rb : Reads s.heap b db bs) (hc : da.canLay0 = true ∨ db.canLay0 = true)
    (hu : A.units + min da.depth db.depth < cLine) : RcAt A s a b (PyData.eqv da db) := by
  cases ra with
  | none =>
    cases rb with
    | none => exact RcAt.none_none
    | bool y => exact RcAt.none_bool y
    | int y u => exact RcAt.none_int y u
    | str y u => exact RcAt.none_str y u
    | list k1 k2 k3 k4 => exact RcAt.none_list ⟨_, k1, k2, _, k3⟩ (room_here hu)
    | tuple k1 k2 k3 k4 => exact RcAt.none_tuple ⟨_, k1, k2, _, k3⟩ (room_here hu)
    | dict k1 k2 k3 _ _ => exact rc_none_dict ⟨_, k1, k2, _, k3⟩ (room_here hu)
  | bool x =>
    cases rb with
    | none => exact RcAt.bool_none x
    | bool y => exact RcAt.bool_bool x y
    | int y u => exact RcAt.bool_int x y u
    | str y u => exact RcAt.bool_str x y u
    | list k1 k2 k3 k4 => exact RcAt.bool_list x ⟨_, k1, k2, _, k3⟩ (room_here hu)
    | tuple k1 k2 k3 k4 => exact RcAt.bool_tuple x ⟨_, k1, k2, _, k3⟩ (room_here hu)
    | dict k1 k2 k3 _ _ => exact rc_bool_dict x ⟨_, k1, k2, _, k3⟩ (room_here hu)
  | int x t =>
    cases rb with
    | none => exact RcAt.int_none x t
    | bool y => exact RcAt.int_bool x t y
    | int y u => exact RcAt.int_int x t y u
    | str y u => exact RcAt.int_str x t y u
    | list k1 k2 k3 k4 => exact RcAt.int_list x t ⟨_, k1, k2, _, k3⟩ (room_here hu)
    | tuple k1 k2 k3 k4 => exact RcAt.int_tuple x t ⟨_, k1, k2, _, k3⟩ (room_here hu)
    | dict k1 k2 k3 _ _ => exact rc_int_dict x t ⟨_, k1, k2, _, k3⟩ (room_here hu)
  | str x t =>
    cases rb with
    | none => exact RcAt.str_none x t
    | bool y => exact RcAt.str_bool x t y
    | int y u => exact RcAt.str_int x t y u
    | str y u => exact RcAt.str_str x t y u
    | list k1 k2 k3 k4 => exact RcAt.str_list x t ⟨_, k1, k2, _, k3⟩ (room_here hu)
    | tuple k1 k2 k3 k4 => exact RcAt.str_tuple x t ⟨_, k1, k2, _, k3⟩ (room_here hu)
    | dict k1 k2 k3 _ _ => exact rc_str_dict x t ⟨_, k1, k2, _, k3⟩ (room_here hu)
  | @list l o vs n xs as₁ h1 h2 h3 h4 =>
    have hl : s.heap.IsList l vs := ⟨_, h1, h2, _, h3⟩
    cases rb with
    | none => exact RcAt.list_none hl (room_here hu)
    | bool y => exact RcAt.list_bool y hl (room_here hu)
    | int y u => exact RcAt.list_int y u hl (room_here hu)
    | str y u => exact RcAt.list_str y u hl (room_here hu)
    | tuple k1 k2 k3 k4 => exact RcAt.list_tuple hl ⟨_, k1, k2, _, k3⟩ (room_here hu)
    | dict k1 k2 k3 _ _ => exact rc_list_dict hl ⟨_, k1, k2, _, k3⟩ (room_here hu)
    | @list l' o' vs' n' ys bs₁ k1 k2 k3 k4 =>
      have hl' : s.heap.IsList l' vs' := ⟨_, k1, k2, _, k3⟩
      have n1 : vs.size = xs.length := by simpa using ReadsAll.length _ _ _ h4
      have n2 : vs'.size = ys.length := by simpa using ReadsAll.length _ _ _ k4
      have he : ∀ j (j1 : j < vs.size) (j2 : j < vs'.size), EqAt A.in1 s vs[j] vs'[j] (pairEq xs ys j) := fun j j1 j2 => by
        have := eqAnyAll xs ys A.in1 s vs.toList vs'.toList _ _ h4 k4 (or_list hc) (room_in hu) j (by simpa using j1) (by simpa using j2)
        simpa using this
      show RcAt A s (.ref l) (.ref l') (PyData.eqvAll xs ys)
      by_cases hsz : vs.size = vs'.size
      · rw [← eqvAll_same_length (by omega : xs.length = ys.length), ← n1]
        exact RcAt.lists hl hl' hsz (room_here hu) he
      · rw [eqvAll_other_length (by omega : xs.length ≠ ys.length)]
        exact RcAt.lists_lengths hl hl' (by simpa using hsz) (room_here hu)
  | @tuple l o vs n xs as₁ h1 h2 h3 h4 =>
    have hl : s.heap.IsTuple l vs := ⟨_, h1, h2, _, h3⟩
    cases rb with
    | none => exact RcAt.tuple_none hl (room_here hu)
    | bool y => exact RcAt.tuple_bool y hl (room_here hu)
    | int y u => exact RcAt.tuple_int y u hl (room_here hu)
    | str y u => exact RcAt.tuple_str y u hl (room_here hu)
    | list k1 k2 k3 k4 => exact RcAt.tuple_list hl ⟨_, k1, k2, _, k3⟩ (room_here hu)
    | dict k1 k2 k3 _ _ => exact rc_tuple_dict hl ⟨_, k1, k2, _, k3⟩ (room_here hu)
    | @tuple l' o' vs' n' ys bs₁ k1 k2 k3 k4 =>
      have hl' : s.heap.IsTuple l' vs' := ⟨_, k1, k2, _, k3⟩
      have n1 : vs.size = xs.length := by simpa using ReadsAll.length _ _ _ h4
      have n2 : vs'.size = ys.length := by simpa using ReadsAll.length _ _ _ k4
      have he : ∀ j (j1 : j < vs.size) (j2 : j < vs'.size), EqAt A.in1 s vs[j] vs'[j] (pairEq xs ys j) := fun j j1 j2 => by
        have := eqAnyAll xs ys A.in1 s vs.toList vs'.toList _ _ h4 k4 (or_tuple hc) (room_in hu) j (by simpa using j1) (by simpa using j2)
        simpa using this
      show RcAt A s (.ref l) (.ref l') (PyData.eqvAll xs ys)
      rw [← eqvAll_eq xs ys, ← n1, ← n2]
      exact RcAt.tuples hl hl' (room_here hu) he
  | @dict l o es n xs as₁ bs₁ h1 h2 h3 h4 h5 =>
    have hl : IsDct s.heap l es := ⟨_, h1, h2, _, h3⟩
    cases rb with
    | none => exact rc_dict_none hl (room_here hu)
    | bool y => exact rc_dict_bool y hl (room_here hu)
    | int y u => exact rc_dict_int y u hl (room_here hu)
    | str y u => exact rc_dict_str y u hl (room_here hu)
    | list k1 k2 k3 k4 => exact rc_dict_list hl ⟨_, k1, k2, _, k3⟩ (room_here hu)
    | tuple k1 k2 k3 k4 => exact rc_dict_tuple hl ⟨_, k1, k2, _, k3⟩ (room_here hu)
    | dict k1 k2 k3 _ _ => simp [PyData.canLay0] at hc
end
section
variable {B : Bs} {X : Cx} {pins : List (Addr × Obj)} {σ : L2.St} {H F : Hp} {s : Shared}
open PySem.Spec L2
theorem repB_reads2 (I : Inv X pins σ H s) (e : Same F H) {d : D} {v : V} {u : Value} {W : WT} (p : rp 64 d = true) (h : RepB W X.kn F H v d) (r : RelV v u) : ∃ as, Reads s.heap u (toPy d) as := by
  rcases h with h | ⟨a, ds, vs, rfl, rfl, _, h, rs⟩ | ⟨a, ds, vs, rfl, rfl, _, h, rs⟩
  · obtain ⟨as, q, _⟩ := rep_reads I e 64 d v u p h r
    exact ⟨as, q⟩
  · cases r
    obtain ⟨its, rv, ⟨o, m, ho, hc, _, hd⟩, _⟩ := I.list (SqL.of h)
    obtain ⟨as, hr, sf⟩ := reps_reads I e 63 ds _ its (by simpa only [rp] using p) rs rv
    exact ⟨_, by simp only [toPy]; exact .list ho hc hd hr⟩
  · cases r
    obtain ⟨_, hS, vs, kv, o, es, ep, ho, hx, hd, _, hp, _⟩ := I.hok _ _ h
    obtain ⟨as, bs, h1, h2, s1, s2⟩ := repk_reads I e 63 ds _ vs es.toList (by simpa only [rp] using p) rs kv hp
    exact ⟨_, by simp only [toPy]; exact .dict ho hx.1 hd h1 h2⟩
/-- == of any two values of which one is without dicts -/
def eqA : D → D → (D → Prop) → Prop
  | .str a, .str b, Q => Q (.bl (decide (a = b)))
  | x, y, Q => rp 64 x = true ∧ rp 64 y = true ∧ (pl 64 x = true ∨ pl 64 y = true) ∧ Q (.bl (eqb x y))
theorem o_eqA (hu : X.A.units + 65 < cLine) : OpR X (compareOp .Eq) (LO2 B X.kn eqA) := fun pins s σ H x y v u Q I rx ry ⟨F, a, b, Qd, e, dk, r1, r2, q, k⟩ => by
  unfold eqA at q
  split at q
  · exact o_eq (B := B) (by omega) pins s σ H x y v u Q I rx ry ⟨F, _, _, Qd, e, dk, r1, r2, q, k⟩
  · obtain ⟨q1, q2, q3, q4⟩ := q
    obtain ⟨as, h1⟩ := repB_reads2 I e q1 r1 rx
    obtain ⟨bs, h2⟩ := repB_reads2 I e q2 r2 ry
    have d1 := rp_depth 64 _ q1
    have d2 := rp_depth 64 _ q2
    refine rcAny h1 h2 ?_ (by omega) _ _ _ _ ⟨.bl _, H, I, rfl, k.here e dk q4 (.bl _)⟩
    rcases q3 with q3 | q3
    · exact .inl (pl_shape 64 _ q3).1
    · exact .inr (pl_shape 64 _ q3).1
end
end ND

/-! ND38: a text tells its value, if the value is made of ints and tuples -/
namespace ND
open PySem PySem.Spec L2
open PyProof.Rows (cps_toList_append signs_ofString int_text_free')
abbrev cs (d : PyData) : List Nat := d.shown.cps.toList
mutual
/-- ints and tuples alone -/
def nest : PyData → Bool
  | .int _ => true
  | .tuple xs => nests xs
  | _ => false
def nests : List PyData → Bool
  | [] => true
  | x :: xs => nest x && nests xs
end
theorem str_inj {x y : Str} (h : x.cps.toList = y.cps.toList) : x = y := by
  cases x
  cases y
  simp only at h
  rw [Array.toList_inj.mp h]
theorem map_inj {xs ys : List Char} (h : xs.map Char.toNat = ys.map Char.toNat) : xs = ys := by
  induction xs generalizing ys with
  | nil => cases ys with
    | nil => rfl
    | cons _ _ => simp at h
  | cons x xs ih => cases ys with
    | nil => simp at h
    | cons y ys =>
      simp only [List.map_cons, List.cons.injEq] at h
      rw [ih h.2, Char.toNat_inj.mp h.1]
theorem int_inj {i j : Int} (h : cs (.int i) = cs (.int j)) : i = j := by
  have h' : ((toString i : String) : Str).cps.toList = ((toString j : String) : Str).cps.toList := h
  rw [signs_ofString, signs_ofString] at h'
  have := map_inj h'
  exact Int.repr_inj.mp (String.toList_inj.mp this)
def isDg (c : Nat) : Bool := c == 45 || (decide (48 ≤ c) && decide (c ≤ 57))
theorem int_dg (i : Int) : ∀ c ∈ cs (.int i), isDg c = true := fun c m => by
  cases h : isDg c with
  | true => rfl
  | false =>
    simp [isDg] at h
    exact absurd m (int_text_free' c ⟨h.1, by omega⟩ i)
theorem int_ne (i : Int) : cs (.int i) ≠ [] := fun e => by
  have h : ((toString i : String) : Str).cps.toList = [] := e
  rw [signs_ofString, List.map_eq_nil_iff] at h
  have h2 : i.repr.toList = [] := h
  rw [Int.repr_eq_if] at h2
  split at h2
  · rw [Nat.toList_repr] at h2
    have := PyProof.Rows.tDigits_len_ge 10 i.toNat
    rw [h2] at this
    simp at this
  · rw [String.toList_append] at h2
    simp at h2
/-- what may stand behind a value -/
def Stop (r : List Nat) : Prop := r = [] ∨ ∃ c t, r = c :: t ∧ (c = 44 ∨ c = 41)
theorem stop_take {r : List Nat} (h : Stop r) : r.takeWhile isDg = [] := by
  rcases h with rfl | ⟨c, t, rfl, rfl | rfl⟩ <;> rfl
theorem take_dg {xs r : List Nat} (h : ∀ c ∈ xs, isDg c = true) (s : Stop r) : (xs ++ r).takeWhile isDg = xs := by
  induction xs with
  | nil => exact stop_take s
  | cons x xs ih =>
    rw [List.cons_append, List.takeWhile_cons, if_pos (h x List.mem_cons_self), ih fun c m => h c (List.mem_cons_of_mem _ m)]
theorem sh_ap (a b : Str) : (a ++ b).cps.toList = a.cps.toList ++ b.cps.toList := cps_toList_append a b
theorem from_pre : ∀ (ts : List Str) (k : Nat) (acc : Str), ∃ r, (textFrom k acc ts).cps.toList = acc.cps.toList ++ r
  | [], _, acc => ⟨[], by simp [textFrom]⟩
  | t :: ts, k, acc => by
    obtain ⟨r, e⟩ := from_pre ts (k + 1) (acc ++ (if k > 0 then ", " else "" : String) ++ t)
    refine ⟨(((if k > 0 then ", " else "" : String) : Str).cps.toList ++ t.cps.toList) ++ r, ?_⟩
    rw [textFrom, e, sh_ap, sh_ap]
    simp only [List.append_assoc]
/-- how the text of a value begins -/
def headOk : PyData → Nat → Prop
  | .none, c => c = 78
  | .bool _, c => c = 84 ∨ c = 70
  | .int _, c => isDg c = true
  | .str _, c => c = 34 ∨ c = 39
  | .list _, c => c = 91
  | .tuple _, c => c = 40
  | .dict _, c => c = 123
theorem quote_two (x : Str) : reprQuote x = 34 ∨ reprQuote x = 39 := by
  unfold reprQuote
  split
  · simp
  · simp
theorem fold_pre (q : Nat) : ∀ (l : List Nat) (acc : Array Nat), ∃ r, (l.foldl (fun out c => out ++ (PySem.Builtin.Str.reprChar q c).toArray) acc).toList = acc.toList ++ r
  | [], acc => ⟨[], by simp⟩
  | c :: l, acc => by
    obtain ⟨r, e⟩ := fold_pre q l (acc ++ (PySem.Builtin.Str.reprChar q c).toArray)
    exact ⟨PySem.Builtin.Str.reprChar q c ++ r, by rw [List.foldl_cons, e]; simp⟩
theorem head_of (x : PyData) : ∃ c t, cs x = c :: t ∧ headOk x c := by
  cases x with
  | none => exact ⟨78, _, rfl, rfl⟩
  | bool b => cases b; exact ⟨70, _, rfl, .inr rfl⟩; exact ⟨84, _, rfl, .inl rfl⟩
  | int i =>
    cases h : cs (.int i) with
    | nil => exact absurd h (int_ne i)
    | cons c t => exact ⟨c, t, rfl, int_dg i c (by rw [h]; exact List.mem_cons_self)⟩
  | str x =>
    obtain ⟨r, e⟩ := fold_pre (reprQuote x) x.cps.toList #[reprQuote x]
    refine ⟨reprQuote x, r ++ [reprQuote x], ?_, quote_two x⟩
    show (reprText x).cps.toList = _
    unfold reprText
    rw [← Array.foldl_toList] at *
    simp only [Array.toList_push, e]
    simp
  | list xs =>
    obtain ⟨r, e⟩ := from_pre (PyData.shownAll xs) 0 "["
    refine ⟨91, r ++ [93], ?_, rfl⟩
    show (listText (PyData.shownAll xs)).cps.toList = _
    unfold listText
    rw [sh_ap, e]
    rfl
  | tuple xs =>
    refine ⟨40, (Str.join ", " (PyData.shownAll xs)).cps.toList ++ ((if (PyData.shownAll xs).length == 1 then ",)" else ")" : String) : Str).cps.toList, ?_, rfl⟩
    show (tupleText (PyData.shownAll xs)).cps.toList = _
    unfold tupleText
    rw [sh_ap, sh_ap]
    rfl
  | dict kvs =>
    refine ⟨123, (Str.join ", " (PyData.shownKv kvs)).cps.toList ++ (("}" : String) : Str).cps.toList, ?_, rfl⟩
    show (dictText (PyData.shownKv kvs)).cps.toList = _
    unfold dictText
    rw [sh_ap, sh_ap]
    rfl
def restL : List PyData → List Nat
  | [] => [41]
  | x :: xs => 44 :: 32 :: (cs x ++ restL xs)
theorem join_rest : ∀ (x : PyData) (xs : List PyData), (Str.join ", " (PyData.shownAll (x :: xs))).cps.toList ++ [41] = cs x ++ restL xs
  | x, [] => rfl
  | x, y :: ys => by
    have ih := join_rest y ys
    show (x.shown ++ ", " ++ Str.join ", " (PyData.shownAll (y :: ys))).cps.toList ++ [41] = _
    rw [sh_ap, sh_ap, List.append_assoc, ih, List.append_assoc]
    rfl
theorem cs_t0 : cs (.tuple []) = [40, 41] := rfl
theorem cs_t1 (x : PyData) : cs (.tuple [x]) = 40 :: (cs x ++ [44, 41]) := by
  show (tupleText [x.shown]).cps.toList = _
  unfold tupleText
  rw [sh_ap, sh_ap]
  rfl
theorem cs_t2 (x y : PyData) (xs : List PyData) : cs (.tuple (x :: y :: xs)) = 40 :: (cs x ++ restL (y :: xs)) := by
  rw [← join_rest x (y :: xs)]
  show (tupleText (PyData.shownAll (x :: y :: xs))).cps.toList = _
  unfold tupleText
  rw [sh_ap, sh_ap, if_neg (by simp [PyData.shownAll])]
  rfl
theorem stop_rest (xs : List PyData) (r : List Nat) : Stop (restL xs ++ r) := by
  cases xs with
  | nil => exact .inr ⟨41, _, rfl, .inr rfl⟩
  | cons x xs => exact .inr ⟨44, _, rfl, .inl rfl⟩
theorem head_no {x : PyData} {c : Nat} (h : headOk x c) : c ≠ 41 ∧ c ≠ 44 := by
  cases x <;> simp [headOk, isDg] at h <;> omega
mutual
theorem told : ∀ (y x : PyData) (r r' : List Nat), nest y = true → Stop r → Stop r' → cs x ++ r = cs y ++ r' → x = y ∧ r = r'
  | .int j, x, r, r', _, s, s', e => by
    obtain ⟨c, t, ex, hx⟩ := head_of x
    obtain ⟨c', t', ey, hy⟩ := head_of (.int j)
    have e0 := e
    rw [ex, ey, List.cons_append, List.cons_append] at e0
    injection e0 with ec _
    subst ec
    cases x with
    | int i =>
      have h1 : (cs (.int i) ++ r).takeWhile isDg = (cs (.int j) ++ r').takeWhile isDg := by rw [e]
      rw [take_dg (int_dg i) s, take_dg (int_dg j) s'] at h1
      rw [h1] at e
      exact ⟨by rw [int_inj h1], List.append_cancel_left e⟩
    | none => simp [headOk, isDg] at hx hy; omega
    | bool b => simp [headOk, isDg] at hx hy; omega
    | str b => simp [headOk, isDg] at hx hy; omega
    | list b => simp [headOk, isDg] at hx hy; omega
    | tuple b => simp [headOk, isDg] at hx hy; omega
    | dict b => simp [headOk, isDg] at hx hy; omega
  | .tuple ys, x, r, r', n, s, s', e => by
    obtain ⟨c, t, ex, hx⟩ := head_of x
    obtain ⟨c', t', ey, hy⟩ := head_of (.tuple ys)
    have e0 := e
    rw [ex, ey, List.cons_append, List.cons_append] at e0
    injection e0 with ec _
    subst ec
    have hy' : c = 40 := hy
    subst hy'
    simp only [nest] at n
    cases x with
    | none => simp [headOk, isDg] at hx
    | bool b => simp [headOk, isDg] at hx
    | str b => simp [headOk, isDg] at hx
    | list b => simp [headOk, isDg] at hx
    | int b => simp [headOk, isDg] at hx
    | dict b => simp [headOk, isDg] at hx
    | tuple xs =>
      have key := toldT ys xs r r' n s s' e
      exact ⟨by rw [key.1], key.2⟩
  | .none, _, _, _, n, _, _, _ => by simp [nest] at n
  | .bool _, _, _, _, n, _, _, _ => by simp [nest] at n
  | .str _, _, _, _, n, _, _, _ => by simp [nest] at n
  | .list _, _, _, _, n, _, _, _ => by simp [nest] at n
  | .dict _, _, _, _, n, _, _, _ => by simp [nest] at n
theorem toldT : ∀ (ys xs : List PyData) (r r' : List Nat), nests ys = true → Stop r → Stop r' → cs (.tuple xs) ++ r = cs (.tuple ys) ++ r' → xs = ys ∧ r = r'
  | [], xs, r, r', _, s, s', e => by
    rw [cs_t0] at e
    match xs with
    | [] =>
      rw [cs_t0] at e
      exact ⟨rfl, List.append_cancel_left e⟩
    | [x] =>
      rw [cs_t1] at e
      obtain ⟨c, t, ex, hx⟩ := head_of x
      rw [ex] at e
      simp at e
      exact absurd e.1 (head_no hx).1
    | x :: x' :: xs =>
      rw [cs_t2] at e
      obtain ⟨c, t, ex, hx⟩ := head_of x
      rw [ex] at e
      simp at e
      exact absurd e.1 (head_no hx).1
  | [y], xs, r, r', n, s, s', e => by
    simp only [nests, Bool.and_true] at n
    rw [cs_t1] at e
    match xs with
    | [] =>
      rw [cs_t0] at e
      obtain ⟨c, t, ex, hx⟩ := head_of y
      rw [ex] at e
      simp at e
      exact absurd e.1.symm (head_no hx).1
    | [x] =>
      rw [cs_t1] at e
      simp only [List.cons_append, List.append_assoc, List.cons.injEq, true_and, List.nil_append] at e
      obtain ⟨h1, h2⟩ := told y x _ _ n (.inr ⟨44, _, rfl, .inl rfl⟩) (.inr ⟨44, _, rfl, .inl rfl⟩) e
      injection h2 with _ h2
      injection h2 with _ h2
      exact ⟨by rw [h1], h2⟩
    | x :: x' :: xs =>
      rw [cs_t2] at e
      simp only [List.cons_append, List.append_assoc, List.cons.injEq, true_and, List.nil_append] at e
      obtain ⟨h1, h2⟩ := told y x _ _ n (stop_rest _ _) (.inr ⟨44, _, rfl, .inl rfl⟩) e
      simp [restL] at h2
  | y :: y' :: ys, xs, r, r', n, s, s', e => by
    have n' : nest y = true ∧ nests (y' :: ys) = true := by
      rw [nests, Bool.and_eq_true] at n
      exact n
    rw [cs_t2] at e
    match xs with
    | [] =>
      rw [cs_t0] at e
      obtain ⟨c, t, ex, hx⟩ := head_of y
      rw [ex] at e
      simp at e
      exact absurd e.1.symm (head_no hx).1
    | [x] =>
      rw [cs_t1] at e
      simp only [List.cons_append, List.append_assoc, List.cons.injEq, true_and, List.nil_append] at e
      obtain ⟨h1, h2⟩ := told y x _ _ n'.1 (.inr ⟨44, _, rfl, .inl rfl⟩) (stop_rest _ _) e
      simp [restL] at h2
    | x :: x' :: xs =>
      rw [cs_t2] at e
      simp only [List.cons_append, List.append_assoc, List.cons.injEq, true_and] at e
      obtain ⟨h1, h2⟩ := told y x _ _ n'.1 (stop_rest _ _) (stop_rest _ _) e
      obtain ⟨h3, h4⟩ := toldR (y' :: ys) (x' :: xs) r r' n'.2 s s' h2
      exact ⟨by rw [h1, h3], h4⟩
theorem toldR : ∀ (ys xs : List PyData) (r r' : List Nat), nests ys = true → Stop r → Stop r' → restL xs ++ r = restL ys ++ r' → xs = ys ∧ r = r'
  | [], xs, r, r', _, _, _, e => by
    cases xs with
    | nil => exact ⟨rfl, List.append_cancel_left e⟩
    | cons x xs => simp [restL] at e
  | y :: ys, xs, r, r', n, s, s', e => by
    have n' : nest y = true ∧ nests ys = true := by
      rw [nests, Bool.and_eq_true] at n
      exact n
    cases xs with
    | nil => simp [restL] at e
    | cons x xs =>
      simp only [restL, List.cons_append, List.append_assoc, List.cons.injEq, true_and] at e
      obtain ⟨h1, h2⟩ := told y x _ _ n'.1 (stop_rest _ _) (stop_rest _ _) e
      obtain ⟨h3, h4⟩ := toldR ys xs r r' n'.2 s s' h2
      exact ⟨by rw [h1, h3], h4⟩
end
theorem shown_inj {x y : PyData} (n : nest y = true) (h : x.shown = y.shown) : x = y :=
  (told y x [] [] n (.inl rfl) (.inl rfl) (by rw [List.append_nil, List.append_nil]; unfold cs; rw [h])).1
end ND

/-! ND39: rules for the plain laws, gathered from k10 and k11; loops that find -/
namespace ND
open PySem PySem.Spec L2
section
variable {σ : List SV} {f g h : GE} {x y : D} {s t : GS} {E : Ed}
theorem seq_or2 (a : Ev σ f (.bl false)) (b : Ev σ g (.bl false)) (q : t E σ) : gSeq (gIfS (gOrT (gB f) (gB g)) s gSkip) t E σ := a.run _ (b.run _ q)
theorem if_or2 (a : Ev σ f (.bl false)) (b : Ev σ g (.bl false)) (q : E.nx σ) : gIfS (gOrT (gB f) (gB g)) s gSkip E σ := a.run _ (b.run _ q)
theorem seq_or1 (a : Ev σ f (.bl false)) (q : t E σ) : gSeq (gIfS (gB f) s gSkip) t E σ := a.run _ q
theorem Ev.isT {b : Bool} (a : Ev σ f (.bl b)) : Ev σ (gBin (isD true) f (gC (.bl b))) (.bl false) := ⟨fun Q q => a.run _ (by
  show Q (.bl (!decide (b = b)))
  simpa using q)⟩
theorem Ev.isN (a : Ev σ f .non) : Ev σ (gBin (isD true) f (gC .non)) (.bl false) := ⟨fun Q q => a.run _ q⟩
theorem Ev.neT {xs : List D} (a : Ev σ f (.tup xs)) (b : Ev σ g (.tup xs)) (h : pl 64 (.tup xs) = true) : Ev σ (gBin neD f g) (.bl false) := ⟨fun Q q => a.run _ (b.run _ (by
  show _ ∧ _ ∧ Q (.bl (!eqb _ _))
  rw [eqb_refl h]
  exact ⟨h, h, q⟩))⟩
theorem for_cons {gt : GG} {h : GS} {xs : List D} (q : gt x σ fun σ' => h { E with nx := forG gt h xs E, ct := forG gt h xs E, bk := E.nx } σ') : forG gt h (x :: xs) E σ := q
theorem set_call {W : WD} {R : Er → Prop} {sp : DSp} {fs : GA} {xs : List D} {k : Nat} (a : EvA σ fs xs) (q : sp W xs (fun x => E.nx (σ.set k (.d x))) R) : gSet k (gCall sp W R fs) E σ := a.run _ q
theorem seq_for {fs : GA} {xs : List D} {gt : GG} {h : GS} (a : EvA σ fs xs) (hl : xs.length ≤ sizeLine) (q : forG gt h xs { E with nx := t E } σ) : gSeq (gFor (gIter (ND.gTup fs)) gt h) t E σ := a.run _ ⟨hl, forL_in q⟩
theorem seq_three (a : Ev σ f (.bl true)) (b : Ev σ g (.bl true)) (c : Ev σ h (.bl true)) (q : t E σ) : gSeq (gIfS (gOrT (gNotT (gTru f)) (gOrT (gNotT (gTru g)) (gNotT (gTru h)))) s gSkip) t E σ := by
  refine a.run _ ?_
  simp
  refine b.run _ ?_
  simp
  refine c.run _ ?_
  simpa using q
theorem if_three (a : Ev σ f (.bl true)) (b : Ev σ g (.bl true)) (c : Ev σ h (.bl true)) (q : E.nx σ) : gIfS (gOrT (gNotT (gTru f)) (gOrT (gNotT (gTru g)) (gNotT (gTru h)))) s gSkip E σ := by
  refine a.run _ ?_
  simp
  refine b.run _ ?_
  simp
  refine c.run _ ?_
  simpa using q
end
theorem Ev.mulL {σ : List SV} {f : GE} {xs : List D} {k : Int} (h : Ev σ f (.lst xs)) (h0 : 0 ≤ k) (h1 : k < 2 ^ 63) (hl : xs.length * k.toNat ≤ sizeLine) : Ev σ (gBin mulD f (gC (.int k))) (.lst (List.replicate k.toNat xs).flatten) := ⟨fun Q q => h.run _ ⟨h0, h1, hl, q⟩⟩
theorem one_lc {σ : List SV} {i : Nat} {ft : GT} {Q : List D → Prop} {c : D → Bool} (hi : i < σ.length) : ∀ (xs acc : List D), (∀ x ∈ xs, ∀ Qd : Bool → Prop, Qd (c x) → ft (σ.set i (.d x)) Qd) → acc.length + xs.length ≤ sizeLine → Q (acc ++ (xs.filter c).map fun _ => .int 1) → lcG (ggName i) ft (gC (.int 1)) [i] σ Q xs acc
  | [], acc, _, _, q => by simpa [lcG] using q
  | x :: xs, acc, h, hl, q => by
    simp only [List.length_cons] at hl
    simp only [lcG, ggName, wipeD, gC, List.set_set]
    refine h x List.mem_cons_self _ ?_
    cases hc : c x
    · simp only [Bool.false_eq_true, if_false]
      exact one_lc hi xs _ (fun y m => h y (List.mem_cons_of_mem _ m)) (by omega) (by simpa [hc] using q)
    · simp only [if_true]
      exact ⟨by omega, one_lc hi xs _ (fun y m => h y (List.mem_cons_of_mem _ m)) (by simp; omega) (by simpa [hc] using q)⟩
theorem and_ones {xs : List D} {P : Prop} {Q : D → Prop} (q1 : xs.all isI = true → P) (q2 : xs.all isI = false → Q (.bl false)) : pl 64 (.lst ([] ++ (xs.filter fun x => !isI x).map fun _ => .int 1)) = true ∧ pl 64 (.lst []) = true ∧ if eqb (.lst ([] ++ (xs.filter fun x => !isI x).map fun _ => .int 1)) (.lst []) = true then P else Q (.bl (eqb (.lst ([] ++ (xs.filter fun x => !isI x).map fun _ => .int 1)) (.lst []))) := by
  have e : ((xs.filter fun x => !isI x).map fun _ => D.int 1).isEmpty = xs.all isI := by
    induction xs with
    | nil => rfl
    | cons x xs ih => cases h : isI x <;> simp_all
  simp only [List.nil_append, pl, pls_ones, eqb, toPy, ne_nil, e]
  refine ⟨trivial, by simp [pls], ?_⟩
  cases h : xs.all isI
  · simpa [h] using q2 h
  · simpa [h] using q1 h
theorem rep_app (n : Nat) (r : D) : List.replicate n r ++ [r] = List.replicate (n + 1) r := by simp [List.replicate_succ']
theorem app_rep {σ : List SV} {k n : Nat} {f : GE} {r : D} {s : GS} {E : Ed} (hk : σ[k]? = some (.ol (List.replicate n r))) (h : Ev σ f r) (hl : n < 100) (q : s E (σ.set k (.ol (List.replicate (n + 1) r)))) : gSeq (gApp k f) s E σ := seq_app hk h (by rw [List.length_replicate]; exact Nat.lt_trans hl (by decide)) (by rw [rep_app]; exact q)
def fOf : D → Int → Int
  | .tup [a, b, c, d, e] => at5 (nOf a) (nOf b) (nOf c) (nOf d) (nOf e)
  | _ => fun _ => 0
theorem sumN_D {x : D} {Q : D → Prop} (h : isFive x = true) (q : Q (.int (sumN x))) : sumD [x] Q := by
  obtain ⟨xs, rfl, hl, ha⟩ := five_xs h
  exact ⟨_, ints_of ha, q⟩
theorem cor_five {x : D} (h : isCor x = true) : isFive x = true := by
  cases hf : isFive x
  · rw [cor_no hf] at h
    cases h
  · rfl
theorem five_f {x : D} (h : isFive x = true) : x = tup5 (fOf x) := by
  obtain ⟨xs, rfl, hl, ha⟩ := five_xs h
  match xs, hl with
  | [a, b, c, d, e], _ =>
    simp at ha
    obtain ⟨h1, h2, h3, h4, h5⟩ := ha
    obtain ⟨a, rfl⟩ := isI_n h1
    obtain ⟨b, rfl⟩ := isI_n h2
    obtain ⟨c, rfl⟩ := isI_n h3
    obtain ⟨d, rfl⟩ := isI_n h4
    obtain ⟨e, rfl⟩ := isI_n h5
    exact tup5_mk a b c d e
theorem Ev.eqI2 {σ : List SV} {f g : GE} {i j : Int} (h : Ev σ f (.int i)) (k : Ev σ g (.int j)) : Ev σ (gBin eqD f g) (.bl (decide (i = j))) := h.eqI k
theorem all_lcP {W : WD} {σ : List SV} {i : Nat} {Q : List D → Prop} {c : D → Bool} {P : D → Prop} (sp : DSp) (hs : ∀ x Qd, P x → Qd (.bl (c x)) → sp W [x] Qd fun _ => False) (hi : i < σ.length) : ∀ (xs acc : List D), (∀ x ∈ xs, P x) → acc.length + xs.length ≤ sizeLine → Q (acc ++ xs.map fun x => .bl (c x)) →
    lcG (ggName i) gYes (gCall sp W (fun _ => False) (ND.gCons (gVar i) ND.gNil)) [i] σ Q xs acc
  | [], acc, _, _, q => by simpa [lcG] using q
  | x :: xs, acc, h, hl, q => by
    simp only [List.length_cons] at hl
    have e : (σ.set i (.d x))[i]? = some (.d x) := by simp [hi]
    simp only [lcG, ggName, gYes, gCall, ND.gCons, ND.gNil, gVar, e, if_true, wipeD, List.set_set]
    refine hs x _ (h x List.mem_cons_self) ⟨by omega, ?_⟩
    exact all_lcP sp hs hi xs _ (fun y m => h y (List.mem_cons_of_mem _ m)) (by simp; omega) (by simpa using q)
/-- a loop that returns at the first thing for which it finds something -/
theorem forG_find {ι : Type} {gt : GG} {g : GS} {E : Ed} (h : ι → D) (c : ι → Option D) (I : List SV → Prop) : ∀ (is : List ι) (σ : List SV), I σ → (∀ v, is.findSome? c = some v → E.rt v) → (is.findSome? c = none → ∀ σ, I σ → E.nx σ) →
    (∀ i ∈ is, ∀ σ, I σ → ∀ E' : Ed, E'.rt = E.rt → (∀ v, c i = some v → E.rt v) → (c i = none → ∀ σ2, I σ2 → E'.nx σ2) → (c i = none → ∀ σ2, I σ2 → E'.ct σ2) → gt (h i) σ fun σ' => g E' σ') → forG gt g (is.map h) E σ
  | [], σ, hI, _, hn, _ => hn rfl σ hI
  | i :: is, σ, hI, hv, hn, step => by
    have rest : c i = none → ∀ σ2, I σ2 → forG gt g (is.map h) E σ2 := fun e σ2 h2 =>
      forG_find h c I is σ2 h2 (fun v ev => hv v (by rw [List.findSome?_cons, e]; exact ev)) (fun ev => hn (by rw [List.findSome?_cons, e]; exact ev)) fun j m => step j (List.mem_cons_of_mem _ m)
    exact step i List.mem_cons_self σ hI { E with nx := forG gt g (is.map h) E, ct := forG gt g (is.map h) E, bk := E.nx } rfl (fun v ev => hv v (by rw [List.findSome?_cons, ev])) (fun e => rest e) fun e => rest e
end ND

/-! ND40: x, y, z = [..], e, f -/
namespace ND
open PySem PySem.Spec L2
section
variable {B : Bs} {X : Cx} {a b c : Expr} {fb fc : GE} {pos : Pos}
@[simp] def gParL3 (i j l : Nat) (fs : GA) (fb fc : GE) (E : Ed) (σ : List SV) : Prop := fs σ fun ds => fb σ fun y => fc σ fun z => E.nx (((σ.set i (.ol ds)).set j (.d y)).set l (.d z))
theorem sd_parL3 {i j l : Nat} {x y z : Str} {px py pz pt : Pos} {kt k2 pt2} {fs : GA} (hc : X.calm = true) (hN : X.N.Nodup) (hi : X.N[i]? = some x) (hj : X.N[j]? = some y) (hl : X.N[l]? = some z) (hij : i ≠ j) (hil : i ≠ l) (hjl : j ≠ l)
    (hx : X.env.scope.names.lookup x = some .local) (hy : X.env.scope.names.lookup y = some .local) (hz : X.env.scope.names.lookup z = some .local) (ha : FD B X a fs) (hb : ED B X b fb) (hd : ED B X c fc)
    (hw : swappedStores [.Tuple [.Name x px, .Name y py, .Name z pz] kt pt] (.Tuple [a, b, c] k2 pt2) X.env = pure (some [x, y, z]))
    (hs : swapsWithSole [.Tuple [.Name x px, .Name y py, .Name z pz] kt pt] (.Tuple [a, b, c] k2 pt2) pos.line X.env = pure false := by rfl)
    (h1 : starEach [a, b, c] X.env = (false, eval a X.env) :: starEach [b, c] X.env := by rfl) (h2 : starEach [b, c] X.env = (false, eval b X.env) :: starEach [c] X.env := by rfl) (h3 : starEach [c] X.env = (false, eval c X.env) :: starEach [] X.env := by rfl) :
    SD B X (.Assign [.Tuple [.Name x px, .Name y py, .Name z pz] kt pt] (.Tuple [a, b, c] k2 pt2) pos) (gParL3 i j l fs fb fc) :=
  ⟨ps_imp (ps_par3 hc hN hi hj hl hij hil hjl hx hy hz (pa_cons ha.run (pa_cons hb.run (pa_cons hd.run pa_nil h3) h2) h1) hw hs) fun Dn s H ⟨σ, F, E, R, q, k⟩ => ⟨σ, F, _, R, q, fun ds qd F1 H1 p vs g1 d1 hp fp ep rs => by
    refine ⟨σ, F1, _, R.grow g1 d1, qd, fun y qy F2 H2 v g2 d2 r2 => ?_⟩
    refine ⟨σ, F2, _, R.grow (g1.trans g2) d2, qy, fun z qz F3 H3 u g3 d3 r3 => ?_⟩
    have nw : ¬ InW B.W p := fun w => (R.deck.w w).2 hp
    have e2 : H2 p = some (.lst vs) := g2.hh p _ ep nw (by intro _ z; cases z)
    have f2 : F2 p = none := g2.new p fp (by rw [ep]; exact Option.some_ne_none _)
    have e3 : H3 p = some (.lst vs) := g3.hh p _ e2 nw (by intro _ z; cases z)
    have f3 : F3 p = none := g3.new p f2 (by rw [e2]; exact Option.some_ne_none _)
    have g := (g1.trans g2).trans g3
    have R2 := R.setNew (i := i) (x := .ol ds) g d3 hp f3 ⟨rfl, vs, e3, (rs.mono g2.ff).mono g3.ff⟩
    exact ⟨_, _, _, rfl, k.nx _ _ F3 H3 g.ff ((R2.set (r2.mono g3.ff)).set r3) qz⟩⟩⟩
end
end ND

/-! ND41: repr of any value, a dict too -/
namespace ND
open PySem PySem.Spec L2
open PySem.SeqAt PySem.AutoSeq1
section
variable {prog : Program} {w : World} {A : Around} {E : Value → Shared → Prop} {s : Shared}
theorem repr_big2 {a : Addr} {d : PyData} {as : List Addr} {Q : Value → Shared → Prop} (hn : s.heap.NoDigits) (r : Reads s.heap (.ref a) d as) (sf : SafeD s.heap as) (o : bigOk d = true) (z : d.shown.length ≤ sizeLine) (hg : A.guards = some []) (hu : A.units + (d.depth + 1) < cLine)
    (q : ∀ h' u tk, (∀ b o, s.heap.get? b = some o → h'.get? b = some o) → Q (.str d.shown u) { s with heap := h', toks := tk }) : wpAny (model prog w) A (call (.builtin "repr") [.ref a]) Q E s := by
  cases hd : isDct d with
  | false => exact repr_big hn r sf hd o z hg hu q
  | true =>
    have hk0 : ∀ b o, s.heap.get? b = some o → s.heap.get? b = some o := fun _ _ e => e
    cases r with
    | tuple g1 g2 g3 g4 => cases hd
    | list g1 g2 g3 g4 => cases hd
    | dict g1 g2 g3 g4 g5 =>
      rename_i ob es n kvs a1 a2
      have z1 : (dictText (PyData.shownKv kvs)).length ≤ sizeLine := by simpa only [PyData.shown] using z
      obtain ⟨o1, o2⟩ := bigKv_split kvs (by simpa only [bigOk] using o)
      obtain ⟨b1, l1, k1⟩ := bigs_reads (prog := prog) (w := w) hn g4 (sf.sub fun _ m => List.mem_cons_of_mem _ (List.mem_append_left _ m)) o1 fun t m => by
        obtain ⟨p, mp, lp⟩ := PyData.shownKv_key_le kvs t m
        exact Nat.le_trans lp (Nat.le_trans (dictText_mem_le mp) z1)
      obtain ⟨b2, l2, k2⟩ := bigs_reads (prog := prog) (w := w) hn g5 (sf.sub fun _ m => List.mem_cons_of_mem _ (List.mem_append_right _ m)) o2 fun t m => by
        obtain ⟨p, mp, lp⟩ := PyData.shownKv_val_le kvs t m
        exact Nat.le_trans lp (Nat.le_trans (dictText_mem_le mp) z1)
      have rd := Reads.dict g1 g2 g3 g4 g5
      have low : ReadAtMost s.heap (PyData.depthKv kvs) (b1 ++ b2) := (l1.mono (PyData.depthAll_keys_le kvs)).append (l2.mono (PyData.depthAll_vals_le kvs))
      simp only [PyData.depth] at hu
      simp only [PyData.shown, PyData.shownKv_eq] at q z1 ⊢
      exact call_repr_slot (by omega) ⟨ob, g1, g2⟩ F.slot_dict_repr (call_dict_reprK g1 g2 g3 (sf a (List.mem_append_left _ List.mem_cons_self) _ _ _ g1 g3) (not_mem_of_deeper rd (by simp only [PyData.depth]; omega) low)
        (.of_two es.toList _ _ (k1.more_le (fun _ => List.mem_append_left _) (PyData.depthAll_keys_le kvs)) (k2.more_le (fun _ => List.mem_append_right _) (PyData.depthAll_vals_le kvs)))
        hg (fun b _ => Clear.nil b) (by show A.units + 1 + _ < cLine; omega) hk0 (fun h' u tk k => ⟨_, _, rfl, q h' u tk k⟩) z1)
end
section
variable {B : Bs} {X : Cx} {pins : List (Addr × Obj)} {σ : L2.St} {H F : Hp} {s : Shared}
theorem repB_reads3 (I : Inv X pins σ H s) (e : Same F H) {d : D} {v : V} {u : Value} {W : WT} (p : rp 64 d = true) (h : RepB W X.kn F H v d) (r : RelV v u) : ∃ as, Reads s.heap u (toPy d) as ∧ SafeD s.heap as := by
  rcases h with h | ⟨a, ds, vs, rfl, rfl, _, h, rs⟩ | ⟨a, ds, vs, rfl, rfl, _, h, rs⟩
  · exact rep_reads I e 64 d v u p h r
  · cases r
    obtain ⟨its, rv, ⟨o, m, ho, hc, _, hd⟩, _⟩ := I.list (SqL.of h)
    obtain ⟨as, hr, sf⟩ := reps_reads I e 63 ds _ its (by simpa only [rp] using p) rs rv
    exact ⟨_, by simp only [toPy]; exact .list ho hc hd hr, safe_seq ho hd sf⟩
  · cases r
    obtain ⟨_, hS, vs, kv, o, es, ep, ho, hx, hd, _, hp, _⟩ := I.hok _ _ h
    obtain ⟨as, bs, h1, h2, s1, s2⟩ := repk_reads I e 63 ds _ vs es.toList (by simpa only [rp] using p) rs kv hp
    refine ⟨_, by simp only [toPy]; exact .dict ho hx.1 hd h1 h2, safe_app (fun b m ob es' k e1 e2 => ?_) s2⟩
    rcases List.mem_cons.mp m with z | z
    · subst z
      exact hS
    · exact s1 b z ob es' k e1 e2
def reprV : List D → (D → Prop) → Prop
  | [x], Q => rp 64 x = true ∧ bigOk (toPy x) = true ∧ (toPy x).shown.length ≤ sizeLine ∧ Q (.str (toPy x).shown)
  | _, _ => False
@[simp] theorem reprV_x (x : D) (Q : D → Prop) : reprV [x] Q = (rp 64 x = true ∧ bigOk (toPy x) = true ∧ (toPy x).shown.length ≤ sizeLine ∧ Q (.str (toPy x).shown)) := rfl
theorem c_reprV (hd : Dig X.K) (hG : X.A.guards = some []) (hu : X.A.units + 65 < cLine) : CallR X (.builtin "repr") (LCa B X.kn reprV) := fun pins s σ H vs us Q I rx ⟨F, ds, Qd, e, dk, r, q, k⟩ => by
  unfold reprV at q
  split at q
  · rename_i x
    obtain ⟨h1, h2, h3, h4⟩ := q
    cases hx : isDct (toPy x) with
    | false => exact c_reprB (B := B) hd hG hu pins s σ H vs us Q I rx ⟨F, _, Qd, e, dk, r, ⟨h1, hx, h2, h3, h4⟩, k⟩
    | true =>
      obtain ⟨v, rfl, r1⟩ := rb1 r
      obtain ⟨u, rfl, ru⟩ := vals1 rx
      have fin : Q (.str (toPy x).shown) H := k.here e dk h4 (.str _)
      have sh := rp_depth 64 x h1
      obtain ⟨as, rd, sf⟩ := repB_reads3 I e h1 r1 ru
      have ha : ∃ a, u = .ref a := by
        cases x <;> simp [toPy, isDct] at hx
        simp only [toPy] at rd
        cases rd
        exact ⟨_, rfl⟩
      obtain ⟨a, rfl⟩ := ha
      exact repr_big2 (hd.at I.kIn) rd sf h2 h3 hG (by omega) fun h' u tk hk => ⟨.str _, H, I.kept (t' := tk) hk, ⟨_, rfl⟩, fin⟩
  · exact q.elim
end
end ND

/-! ND42: enumerate of a list or a tuple -/
namespace ND
open PySem PySem.Spec L2
theorem draws_tuple {prog : Program} {w : World} {A : Around} (hh : A.handled = none) (it l : Addr) (hne : l ≠ it) (items : Array Value) :
    Draws prog w A it [it, l] items.size (fun i v => items[i]? = some v) (fun i h => h.IsTupleIter it l i ∧ h.IsTuple l items) where
  live := fun _ _ st => let ⟨o, ho, _⟩ := st.1; ⟨o, ho⟩
  frame := fun _ _ _ st hk => ⟨st.1.at fun o e => hk it (by simp) o e, let ⟨o, ho, r⟩ := st.2; ⟨o, hk l (by simp) o ho, r⟩⟩
  item := fun i s Q E hi st hQ => by
    refine RZ.nextOf_tuple_item st.1 st.2 (x := items[i]) (by simp [hi]) fun h' hit' hs' => ?_
    exact hQ _ h' s.toks (by simp [hi]) ⟨hit', let ⟨o, ho, r⟩ := st.2; ⟨o, hs'.extBut l o hne ho, r⟩⟩ hs'
  done := fun s Q E st hE => RZ.nextOf_tuple_end hh st.1 st.2 (by simp) hE
theorem meets_enumerate_newT (l : Addr) (items : Array Value) :
    Meets (Builtin.«enumerate.__new__» ⟨[.type "enumerate", .ref l], []⟩) (fun _ R s => s.heap.IsTuple l items ∧
      R (.ok (.ret (.ref (s.heap.push { cls := .type "tuple_iterator", data := .fields #[.ref l, .int 0 0] }).objs.size)))
        { s with heap := (s.heap.push { cls := .type "tuple_iterator", data := .fields #[.ref l, .int 0 0] }).push { cls := .type "enumerate", data := .fields #[.none, .bool false, .ref s.heap.objs.size, rawInt 0, .none, .none] } }) :=
  .of_wp fun prog w A R s h => by
    obtain ⟨hp, g, d, tk, os⟩ := s; obtain ⟨hl, h⟩ := h
    have hsub := sub_enumerate
    have hL : Heap.IsTuple (Shared.heap ⟨hp, g, d, tk, os⟩) l items := hl
    obtain ⟨o, ho, _⟩ := id hl
    wp_walk using wpAny_pyIter_tuple hL
    refine wpAny_stack_any fun st => wpAny_pure ?_
    split
    · rename_i c _ _ _ _ _
      cases (c == Value.type "enumerate")
      · wp_walk using wpAny_pyIter_tuple hL
        exact ⟨_, rfl, h⟩
      · wp_walk using wpAny_pyIter_tuple hL
        exact ⟨_, rfl, h⟩
    · wp_walk using wpAny_pyIter_tuple hL
      exact ⟨_, rfl, h⟩
section
variable {prog : Program} {w : World} {A : Around} {E : Value → Shared → Prop} {s : Shared}
theorem call_enumerate_tuple {l : Addr} {items : Array Value} {Q : Value → Shared → Prop} (hL : s.heap.IsTuple l items)
    (h : ∀ h', IsEnum h' (s.heap.objs.size + 1) s.heap.objs.size 0 .none → h'.IsTupleIter s.heap.objs.size l 0 → h'.objs.size = s.heap.objs.size + 2 →
      (∀ b o, s.heap.get? b = some o → h'.get? b = some o) → Q (.ref (s.heap.objs.size + 1)) { s with heap := h' }) :
    wpAny (model prog w) A (call (.type "enumerate") [.ref l]) Q E s := by
  refine callType_new F.called_enumerate (by decide) (F.typeCall_enumerate_1 _) (F.newCall_enumerate_1 _) (fun obj => F.args_object_init_2 obj _) F.entry_enumerate_new
    (meets_enumerate_newT l items) ⟨hL, ?_⟩
  have hz : (s.heap.push { cls := .type "tuple_iterator", data := .fields #[.ref l, .int 0 0] }).objs.size = s.heap.objs.size + 1 := Heap.size_push ..
  show _ ∧ _
  rw [hz]
  have he : IsEnum ((s.heap.push { cls := .type "tuple_iterator", data := .fields #[.ref l, .int 0 0] }).push
      { cls := .type "enumerate", data := .fields #[.none, .bool false, .ref s.heap.objs.size, rawInt 0, .none, .none] }) (s.heap.objs.size + 1) s.heap.objs.size 0 .none := by
    have := Heap.get?_push_size (s.heap.push { cls := .type "tuple_iterator", data := .fields #[.ref l, .int 0 0] })
      (o := { cls := .type "enumerate", data := .fields #[.none, .bool false, .ref s.heap.objs.size, rawInt 0, .none, .none] }) rfl
    rw [hz] at this; exact this
  refine ⟨⟨_, he, rfl⟩, h _ he ⟨_, Heap.get?_push_of_some _ (Heap.get?_push_size _ rfl), rfl, rfl⟩ (by rw [Heap.size_push, hz]) fun b o x => Heap.get?_push_of_some _ (Heap.get?_push_of_some _ x)⟩
end
/-- the tuple at a, each item in a new pair -/
def IteT (K : PySem.W.Frag) (a : Addr) : It :=
  ⟨fun i H => ∃ (xs : List V) (x : V), SqT K H a xs ∧ xs[i]? = some x, fun i H v H' => ∃ T x, v = .ref T ∧ H T = none ∧ H' = upd H T (.tup [.int (i : Nat), x]) ∧ ∀ xs, SqT K H a xs → xs[i]? = some x, fun i H => ∃ xs : List V, SqT K H a xs ∧ xs.length ≤ i⟩
theorem turn_enumT {P : Program} {w : World} {K : PySem.W.Frag} {elts : List Expr} {kk : Nat} {tpos : Pos} {a e it : Addr} (hae : a ≠ e) (hai : a ≠ it) (hne : e ≠ it) :
    Turn P w K (.Tuple elts kk tpos) (IteT K a) [e, it] e (fun i h => (∃ old, IsEnum h e it ((i : Nat) : Int) old) ∧ h.IsTupleIter it a i) where
  mem := by simp
  obj := fun i h st b hb => by
    obtain ⟨⟨old, he⟩, ⟨o, ho, hc, hd⟩⟩ := st
    have e' : b = e ∨ b = it := by simpa using hb
    rcases e' with z | z
    · rw [z]; exact ⟨_, he, fun v q => nomatch q⟩
    · rw [z]; exact ⟨o, ho, fun v q => by rw [hd] at q; cases q⟩
  keep := fun i h h' st k => let ⟨⟨old, he⟩, hi⟩ := st; ⟨⟨old, k e (by simp) _ he⟩, hi.at fun o q => k it (by simp) o q⟩
  item := by
    intro X hP hw hK hc i pins s σ H E I hf st hg
    subst hP hw hK
    obtain ⟨⟨old, he⟩, hit⟩ := st
    obtain ⟨xs, x, hq, hx⟩ := hg
    obtain ⟨its, rv, p, _⟩ := I.tuple hq
    obtain ⟨u, hu, ru⟩ := rv.get hx
    have hel : e < s.heap.objs.size := Heap.lt_size he
    have hil : it < s.heap.objs.size := by obtain ⟨_, q, _⟩ := hit; exact Heap.lt_size q
    have hi : i < its.toArray.size := by
      have := (List.getElem?_eq_some_iff.mp hu).1
      simpa using this
    refine wpAny_pyNext_enum_itemD (draws_tuple (prog := X.prog) (w := X.w) (A := X.A.in1) (I.ok.hd hc) it a hai its.toArray) he ⟨hit, p⟩ hi hne (by simp [hne, Ne.symm hae]) fun y h' tk hy ho hst hT hsz hk => ?_
    have ey : y = u := by
      have h2 : its[i]? = some y := by simpa using hy
      rw [hu] at h2
      exact (Option.some.inj h2).symm
    subst ey
    refine ⟨_, rfl, wpAny_letOwnedTupleGo_enum (s := { s with heap := h', toks := tk + 1 }) ho fun h'' he' sb => ?_⟩
    have hT2 : h''.get? s.heap.objs.size = some { cls := .type "tuple", data := .seq #[.int i tk, y] } := (sb.2 _ (Nat.ne_of_gt hel)).trans hT
    have new : ObjOk X.prog X.w (upd H s.heap.objs.size (.tup [.int (i : Nat), x])) h'' s.heap.objs.size (.tup [.int (i : Nat), x]) :=
      ⟨by show 2 ≤ sizeLine; decide, [.int i tk, y], .cons ⟨_, rfl⟩ (.cons ru .nil), ⟨_, hT2, rfl, _, rfl⟩⟩
    have I1 : Inv X pins σ (upd H s.heap.objs.size (.tup [.int (i : Nat), x])) { s with heap := h'', toks := tk + 1 } :=
      I.turnedNew (ch := [e, it]) (fun b ob hb q => (sb.2 b (fun z => hb (by simp [z]))).trans (hk b ob (fun z => hb (by simp [z])) (fun z => hb (by simp [z])) q)) hf (Nat.le_refl _) new
    refine ⟨.ref s.heap.objs.size, _, I1, rfl, ⟨_, x, rfl, I.hok.fresh (Nat.le_refl _), rfl, fun ys hy => by rw [I.tuple_inj hy hq]; exact hx⟩, ⟨⟨y, ?_⟩, hst.1.at fun o q => (sb.2 it (Ne.symm hne)).trans q⟩, fun b hb => ?_⟩
    · have e1 : ((i + 1 : Nat) : Int) = (i : Int) + 1 := by omega
      rw [e1]; exact he'
    · have hb' : b < s.heap.objs.size := by
        have e' : b = e ∨ b = it := by simpa using hb
        rcases e' with z | z
        · rw [z]; exact hel
        · rw [z]; exact hil
      rw [upd_ne (Nat.ne_of_lt hb')]
      exact (hf b hb).1
  done := by
    intro X hP hw hK hc i pins s σ H E I hf st hg
    subst hP hw hK
    obtain ⟨⟨old, he⟩, hit⟩ := st
    obtain ⟨xs, hq, hx⟩ := hg
    obtain ⟨its, rv, p, _⟩ := I.tuple hq
    obtain ⟨f0, f1, f2, f3, f4, f5⟩ := hf it (by simp)
    have hl := rv.length
    have hT : s.TypeIs (.ref e) "enumerate" := ⟨_, he, rfl⟩
    unfold pyNext
    refine wpAny_bind (wpAny_attempt (wpAny_callSpecial?_slot (name := Str.ofString "__next__") hT F.slot_enumerate_next
      (wpAny_call_entry F.slot_enumerate_next hT F.entry_enumerate_next ?_ (F.args_enumerate_next_1 _))))
    show wpAny _ _ (field (.ref e) 2 >>= _) _ _ _
    refine wpAny_bind (wpAny_field he rfl (x := .ref it) rfl ?_)
    refine wpAny_bind (RZ.nextOf_tuple_end (A := X.A.in1) (I.ok.hd hc) hit p (by simp; omega) fun h' x he' hx' => ?_)
    obtain ⟨o, ho, hcl⟩ := hx'
    refine wpAny_bind (wpAny_isInstance (T := "StopIteration") (b := true) ⟨o, ho, hcl⟩ isSubtype_stop ?_)
    exact wpAny_pure ⟨rfl, I.turned (t' := s.toks) (fun b o hb q => he' b o hb q) f0 f1 f3 f4 f5⟩
  self := fun A i s Q E st h => let ⟨⟨_, he⟩, _⟩ := st; wpAny_pyIter_enum he h
def iEnumA (K : PySem.W.Frag) (ta : TA) : TI := fun σ H R => ta σ H fun vs H1 => ∃ a xs, vs = [.ref a] ∧ ((SqL K H1 a xs ∧ R (Ite K a) H1) ∨ (SqT K H1 a xs ∧ R (IteT K a) H1))
theorem pi_enumA {X : Cx} {e : Expr} {ta : TA} {p pos tpos : Pos} {elts : List Expr} {kk : Nat} (hg : Gl X "enumerate") (hm : X.mg "enumerate" = none) (ha : PA X [e] ta) (hs : starEach [e] X.env = [(false, eval e X.env)] := by rfl) :
    PI X (.Tuple elts kk tpos) (.Call (.Name "enumerate" p) [e] [] pos) (iEnumA X.K ta) := by
  refine ⟨fun pins s σ H R I h => ?_⟩
  refine PyProof.Rows.Call_ (ld_blt I hg hm PyProof.Rows.boot_enumerate (PyProof.Rows.callWith_type1 (thn (ha.run pos pins s σ H _ I h) fun us s1 ⟨vs, H1, I1, r1, q1⟩ => ?_) hs rfl))
  obtain ⟨a, xs, ex, q⟩ := q1
  subst ex
  cases r1 with
  | cons r rr =>
    cases rr
    cases r
    have fr : ∀ b, b ∈ [s1.heap.objs.size + 1, s1.heap.objs.size] → FpOk X pins H1 b := fun b hb => by
      have e' : b = s1.heap.objs.size + 1 ∨ b = s1.heap.objs.size := by simpa using hb
      have hle : s1.heap.objs.size ≤ b := by
        rcases e' with z | z
        · rw [z]; exact Nat.le_add_right _ _
        · rw [z]; exact Nat.le_refl _
      exact I1.fpOk hle (I1.hok.fresh hle)
    rcases q with ⟨hq, q⟩ | ⟨hq, q⟩
    · obtain ⟨its, rv, p', hz⟩ := I1.list hq
      refine call_enumerate_list p'.isList fun h' he hit hsz hk => wpAny_pyIter_enum he ?_
      have I2 : Inv X pins σ H1 { s1 with heap := h' } := I1.kept (t' := s1.toks) hk
      exact ⟨s1.heap.objs.size + 1, [s1.heap.objs.size + 1, s1.heap.objs.size], _, _, H1, rfl, I2, turn_enum a (s1.heap.objs.size + 1) s1.heap.objs.size, ⟨⟨.none, he⟩, hit, Nat.succ_ne_self _⟩, fr, q⟩
    · obtain ⟨its, rv, p', hz⟩ := I1.tuple hq
      obtain ⟨o1, ho1, _⟩ := id p'
      have hl := Heap.lt_size ho1
      refine call_enumerate_tuple (show s1.heap.IsTuple a its.toArray from p') fun h' he hit hsz hk => wpAny_pyIter_enum he ?_
      have I2 : Inv X pins σ H1 { s1 with heap := h' } := I1.kept (t' := s1.toks) hk
      exact ⟨s1.heap.objs.size + 1, [s1.heap.objs.size + 1, s1.heap.objs.size], _, _, H1, rfl, I2, turn_enumT (Nat.ne_of_lt (Nat.lt_succ_of_lt hl)) (Nat.ne_of_lt hl) (Nat.succ_ne_self _), ⟨⟨.none, he⟩, hit⟩, fr, q⟩
section
variable {B : Bs} {X : Cx} {e : Expr} {pos : Pos}
def enumL (xs : List D) : List D := xs.zipIdx.map fun x => .tup [.int (x.2 : Nat), x.1]
theorem enumL_at {xs : List D} {i : Nat} {d : D} (h : (enumL xs)[i]? = some d) : ∃ x, xs[i]? = some x ∧ d = .tup [.int (i : Nat), x] := by
  unfold enumL at h
  rw [List.getElem?_map, List.getElem?_zipIdx] at h
  cases hx : xs[i]? with
  | none => simp [hx] at h
  | some x =>
    simp [hx] at h
    exact ⟨x, rfl, h.symm⟩
theorem enumL_len (xs : List D) : (enumL xs).length = xs.length := by simp [enumL]
theorem itOk_enumT {K : Kn} {a : Addr} {vs : List V} {xs : List D} {F : Hp} (h : SqT K.K F a vs) (r : Reps K F vs xs) : ItOk B K (IteT K.K a) (enumL xs) F := by
  refine ⟨fun F' H' i d e1 e2 dk hd => ?_, fun F' H' i e1 e2 hi => ⟨vs, same_t e2 (same_t e1 h), by rw [r.length]; rw [enumL_len] at hi; exact hi⟩⟩
  obtain ⟨x, hx, rfl⟩ := enumL_at hd
  have ha : SqT K.K H' a vs := same_t e2 (same_t e1 h)
  obtain ⟨v, hv, rv⟩ := r.get hx
  refine ⟨⟨vs, v, ha, hv⟩, fun z H'' ⟨T, v', e, hT, eH, fv⟩ => ?_⟩
  subst e eH
  have z1 := fv vs ha
  rw [hv] at z1
  cases z1
  have fT := e2.free hT
  exact ⟨_, Grow.frz e2 hT, dk.frz hT, .tup (SqT.of upd_same) (.cons (.int _) (.cons ((rv.mono e1).mono (same_new fT)) .nil))⟩
theorem itOk_enumL {K : Kn} {a : Addr} {vs : List V} {xs : List D} {F : Hp} (h : F a = some (.lst vs)) (r : Reps K F vs xs) : ItOk B K (Ite K.K a) (enumL xs) F := by
  refine ⟨fun F' H' i d e1 e2 dk hd => ?_, fun F' H' i e1 e2 hi => ⟨vs, SqL.of (e2 _ _ (e1 _ _ h)), by rw [r.length]; rw [enumL_len] at hi; exact hi⟩⟩
  obtain ⟨x, hx, rfl⟩ := enumL_at hd
  have ha : SqL K.K H' a vs := SqL.of (e2 _ _ (e1 _ _ h))
  obtain ⟨v, hv, rv⟩ := r.get hx
  refine ⟨⟨vs, v, ha, hv⟩, fun z H'' ⟨T, v', e, hT, eH, fv⟩ => ?_⟩
  subst e eH
  have z1 := fv vs ha
  rw [hv] at z1
  cases z1
  have fT := e2.free hT
  exact ⟨_, Grow.frz e2 hT, dk.frz hT, .tup (SqT.of upd_same) (.cons (.int _) (.cons ((rv.mono e1).mono (same_new fT)) .nil))⟩
def enumD : List D → (List D → Prop) → Prop
  | [.tup xs], Q => Q (enumL xs)
  | [.lst xs], Q => Q (enumL xs)
  | _, _ => False
@[simp] theorem enumD_t (xs : List D) (Q : List D → Prop) : enumD [.tup xs] Q = Q (enumL xs) := rfl
@[simp] theorem enumD_l (xs : List D) (Q : List D → Prop) : enumD [.lst xs] Q = Q (enumL xs) := rfl
@[simp] def gEnum (fs : GA) (σ : List SV) (Q : List D → Prop) : Prop := fs σ fun ds => enumD ds Q
theorem pid_enum {p tpos : Pos} {elts : List Expr} {kk : Nat} {fs : GA} (hg : Gl X "enumerate") (hm : X.mg "enumerate" = none) (ha : AD B X [e] fs)
    (hs : starEach [e] X.env = [(false, eval e X.env)] := by rfl) :
    PID B X (.Tuple elts kk tpos) (.Call (.Name "enumerate" p) [e] [] pos) (gEnum fs) :=
  ⟨pi_imp (pi_enumA hg hm ha.run hs) fun s H R ⟨σ, F, Qd, Rl, q, k⟩ => ⟨σ, F, _, Rl, q, fun ds qd F1 H1 vs g1 d1 r1 => by
    unfold enumD at qd
    split at qd
    · cases r1 with
      | cons r t =>
        cases t
        cases r with
        | tup h r => exact ⟨_, _, rfl, .inr ⟨same_t g1.fh h, k _ qd F1 H1 _ g1 d1 (itOk_enumT h r)⟩⟩
    · cases r1 with
      | cons r t =>
        cases t
        cases r with
        | lst h r => exact ⟨_, _, rfl, .inl ⟨SqL.of (g1.fh _ _ h), k _ qd F1 H1 _ g1 d1 (itOk_enumL h r)⟩⟩
    · exact qd.elim⟩⟩
end
end ND

/-! ND43: extend, nested targets of comprehensions, small lemmas for the plain laws -/
namespace ND
open PySem PySem.Spec L2
section
variable {B : Bs} {X : Cx} {e : Expr} {pos : Pos}
/-- xs.extend(e), e a list -/
def gExt (k : Nat) (fe : GE) : GS := fun E σ => ∃ xs, σ[k]? = some (.ol xs) ∧ fe σ fun d => ∃ ys, d = .lst ys ∧ xs.length + ys.length ≤ sizeLine ∧ E.nx (σ.set k (.ol (xs ++ ys)))
theorem sd_ext {k : Nat} {x : Str} {px apos cpos : Pos} {fe : GE} (h : PE X (.Call (.Attribute (.Name x px) "extend" apos) [e] [] cpos) (tBM X.K "list" rExtend (tVar k) (tCons (LE B X.kn fe) tNil))) (hs : swapsWith (.Call (.Attribute (.Name x px) "extend" apos) [e] [] cpos) none pos.line X.env = pure false := by rfl) :
    SD B X (.Expr (.Call (.Attribute (.Name x px) "extend" apos) [e] [] cpos) pos) (gExt k fe) :=
  ⟨ps_imp (ps_expr h hs) fun Dn s H ⟨σ, F, E, R, ⟨xs, eo, q⟩, kk⟩ => by
    obtain ⟨a, _, s1, h1, _⟩ := R.ownL eo
    refine ⟨.ref a, s1, .inl ⟨rfl, _, .inl (.inl h1)⟩, σ, F, _, R, q, fun d ⟨ys, ed, hz, qd⟩ F1 H1 v g1 d1 r1 => ?_⟩
    subst ed
    have R1 := R.grow g1 d1
    obtain ⟨a', vs, s2, h2, h3, h4, h5, h6⟩ := R1.ownL eo
    rw [s1] at s2
    cases s2
    cases r1 with
    | @lst b us _ hb rb =>
      exact ⟨a, b, vs, us, rfl, rfl, h2, g1.fh _ _ hb, by rw [h3.length, rb.length]; exact hz, kk.nx _ _ F1 _ g1.ff (R1.write eo (.inl ⟨_, rfl⟩) s1 (x := .ol (xs ++ ys)) ⟨rfl, _, upd_same, h3.append rb⟩) qd⟩⟩
theorem sd_extE {k : Nat} {x : Str} {px apos cpos : Pos} {fe : GE} (hv : PE X (.Name x px) (tVar k)) (ha : ED B X e fe) (hbase : attributeBase (.Name x px) "extend" X.env (eval (.Name x px) X.env) = eval (.Name x px) X.env := by rfl)
    (hfew : ((backTo cpos (starEach [e] X.env)).all (fun x => !x.1) && (backToKw cpos (keywordEach [] X.env)).all (fun x => x.1.isSome) && decide ([e].length + ([] : List Keyword).length + (if ([] : List Keyword).isEmpty then 0 else 1) < 30)) = true := by rfl)
    (hline : (apos.endLine == cpos.line) = true := by rfl) (hs1 : starEach [e] X.env = (false, eval e X.env) :: starEach [] X.env := by rfl) (hplain : (backTo cpos (starEach [] X.env)).any (·.1) = false := by rfl)
    (hs : swapsWith (.Call (.Attribute (.Name x px) "extend" apos) [e] [] cpos) none pos.line X.env = pure false := by rfl) : SD B X (.Expr (.Call (.Attribute (.Name x px) "extend" apos) [e] [] cpos) pos) (gExt k fe) :=
  sd_ext (pe_bm PySem.F.plainAttrs_list PySem.F.slot_list_extend PySem.F.type_list_extend mt_extend hv (pa_cons ha.run pa_nil hs1) hbase hfew hline hs1 hplain) hs
end
/-! ### x, y = e, [..] -/
section
variable {B : Bs} {X : Cx} {a b : Expr} {pos : Pos} {fa : GE}
@[simp] def gParR (i j : Nat) (fa : GE) (fs : GA) (E : Ed) (σ : List SV) : Prop := fa σ fun y => fs σ fun ds => E.nx ((σ.set i (.d y)).set j (.ol ds))
theorem sd_parR {i j : Nat} {x y : Str} {px py pt : Pos} {kt k2 pt2} {fs : GA} (hc : X.calm = true) (hN : X.N.Nodup) (hi : X.N[i]? = some x) (hj : X.N[j]? = some y) (hij : i ≠ j)
    (hx : X.env.scope.names.lookup x = some .local) (hy : X.env.scope.names.lookup y = some .local) (ha : ED B X a fa) (hb : FD B X b fs)
    (hw : swappedStores [.Tuple [.Name x px, .Name y py] kt pt] (.Tuple [a, b] k2 pt2) X.env = pure (some [x, y]))
    (hs : swapsWithSole [.Tuple [.Name x px, .Name y py] kt pt] (.Tuple [a, b] k2 pt2) pos.line X.env = pure false := by rfl)
    (h1 : starEach [a, b] X.env = (false, eval a X.env) :: starEach [b] X.env := by rfl) (h2 : starEach [b] X.env = (false, eval b X.env) :: starEach [] X.env := by rfl) :
    SD B X (.Assign [.Tuple [.Name x px, .Name y py] kt pt] (.Tuple [a, b] k2 pt2) pos) (gParR i j fa fs) :=
  ⟨ps_imp (ps_par hc hN hi hj hij hx hy (pa_cons ha.run (pa_cons hb.run pa_nil h2) h1) hw hs) fun Dn s H ⟨σ, F, E, R, q, k⟩ => ⟨σ, F, _, R, q, fun y qy F1 H1 v g1 d1 r1 => by
    refine ⟨σ, F1, _, R.grow g1 d1, qy, fun ds qd F2 H2 p vs g2 d2 hp fp ep rs => ?_⟩
    have R2 := ((R.grow g1 d1).set (i := i) r1).setNew (i := j) (x := .ol ds) g2 d2 hp fp ⟨rfl, vs, ep, rs⟩
    exact ⟨_, _, rfl, k.nx _ _ F2 H2 (g1.trans g2).ff R2 qd⟩⟩⟩
theorem sd_parLg {i j : Nat} {ts : List Expr} {pt : Pos} {kt k2 pt2} {fs : GA} (hij : i ≠ j) (hc : X.calm = true) (hn : NamesAt X ts [i, j]) (ha : FD B X a fs) (hb : ED B X b fa)
    (hs : swapsWithSole [.Tuple ts kt pt] (.Tuple [a, b] k2 pt2) pos.line X.env = pure false := by rfl) (hw : swappedStores [.Tuple ts kt pt] (.Tuple [a, b] k2 pt2) X.env = pure none := by rfl)
    (h0 : (assignEach [.Tuple ts kt pt] X.env).map (·.2) = [assign (.Tuple ts kt pt) X.env] := by rfl) (hl : (assignEach ts X.env).length = 2 := by rfl) (hst : (assignEach ts X.env).findIdx? (·.1) = none := by rfl)
    (h1 : starEach [a, b] X.env = (false, eval a X.env) :: starEach [b] X.env := by rfl) (h2 : starEach [b] X.env = (false, eval b X.env) :: starEach [] X.env := by rfl) :
    SD B X (.Assign [.Tuple ts kt pt] (.Tuple [a, b] k2 pt2) pos) (gParL i j fs fa) :=
  ⟨ps_imp (ps_asg (pe_tup (pa_cons ha.run (pa_cons hb.run pa_nil h2) h1)) (pg_tup hc hn.run hl hst) hs hw h0) fun Dn s H ⟨σ, F, E, R, q, k⟩ => ⟨σ, F, _, R, q, fun ds qd F1 H1 p vs g1 d1 hp fp ep rs => by
    refine ⟨σ, F1, _, R.grow g1 d1, qd, fun y qy F2 H2 v g2 d2 r2 => ⟨by show 2 ≤ sizeLine; decide, fun t ht => ?_⟩⟩
    have gl : Grow B.W F2 H2 F2 (upd H2 t (.tup [.ref p, v])) := Grow.laid g2.fh ht
    have dl : DeckIn B.W F2 (upd H2 t (.tup [.ref p, v])) := d2.laid ht
    have g3 := g2.trans gl
    have nw : ¬ InW B.W p := fun w => (R.deck.w w).2 hp
    have e2 : (upd H2 t (.tup [.ref p, v])) p = some (.lst vs) := g3.hh p _ ep nw (by intro _ z; cases z)
    have f2 : F2 p = none := g3.new p fp (by rw [ep]; exact Option.some_ne_none _)
    have R2 := (R.setNew (i := i) (x := .ol ds) (g1.trans g3) dl hp f2 ⟨rfl, vs, e2, rs.mono g3.ff⟩).set (i := j) (r2.mono gl.ff)
    exact ⟨t, _, rfl, SqT.of upd_same, rfl, rfl, k.nx _ _ F2 _ (g1.trans g3).ff R2 qy⟩⟩⟩
end
/-! ### nested targets of a comprehension -/
structure CTgs (B : Bs) (K : Kn) (own : List Nat) (n : Nat) (u : TGs) (gt : GGs) : Prop where
  run : ∀ ds vs σ s F H (Qd : List SV → Prop) (Q : L2.St → Hp → Prop), Rel B K σ s F H → Reps K F vs ds → ds.length = n → gt ds σ Qd → (∀ σ' s', Rel B K σ' s' F H → L2.wipe s' own = L2.wipe s own → Qd σ' → Q s' H) → u vs s H Q
section
variable {B : Bs} {K : Kn} {own : List Nat}
theorem cts_nil : CTgs B K own 0 L2.gNil ggNil := ⟨fun ds vs σ s F H Qd Q R r hl q k => by
  cases ds with
  | nil => cases r with | nil => exact ⟨rfl, k _ _ R rfl q⟩
  | cons _ _ => cases hl⟩
theorem cts_cons {n : Nat} {t : TG} {u : TGs} {g : GG} {h : GGs} (h1 : CTg B K own t g) (h2 : CTgs B K own n u h) : CTgs B K own (n + 1) (L2.gCons t u) (ggCons g h) := ⟨fun ds vs σ s F H Qd Q R r hl q k => by
  cases r with
  | nil => cases hl
  | cons r1 r2 => exact ⟨_, _, rfl, h1.run _ _ _ _ _ _ _ _ R r1 q fun σ' s' R' hw q' => h2.run _ _ _ _ _ _ _ _ R' r2 (by simpa using hl) q' fun σ2 s2 R2 hw2 q2 => k _ _ R2 (hw2.trans hw) q2⟩⟩
theorem ct_tupG {n : Nat} {u : TGs} {h : GGs} (h2 : CTgs B K own n u h) : CTg B K own (L2.gTup K.K n u) (ggT n h) := ⟨fun d v σ s F H Qd Q R r ⟨ds, e, hl, q⟩ k => by
  subst e
  cases r with
  | tup h' r => exact ⟨_, _, rfl, same_t R.ex h', by rw [r.length]; exact hl, h2.run _ _ _ _ _ _ _ _ R r hl q k⟩⟩
end
/-! ### small things -/
theorem rok_b (a : Bool) : Rok (.bl a) := by cases a <;> exact ⟨by decide +kernel, by decide +kernel, by decide +kernel, by decide +kernel⟩
theorem rok_bb (a b : Bool) : Rok (.tup [.bl a, .bl b]) := by cases a <;> cases b <;> exact ⟨by decide +kernel, by decide +kernel, by decide +kernel, by decide +kernel⟩
theorem rok_non : Rok .non := ⟨by decide +kernel, by decide +kernel, by decide +kernel, by decide +kernel⟩
theorem sum5_i (f : Int → Int) : [f 0, f 1, f 2, f 3, f 4].sum = sum5 f := by
  simp [sum5]
  omega
theorem inb_two (i a b : Int) : inb (.int i) [.int a, .int b] = decide (i = a ∨ i = b) := by
  have e : inb (.int i) [.int a, .int b] = ((a == i) || ((b == i) || false)) := rfl
  rw [e, Bool.eq_iff_iff]
  simp only [Bool.or_eq_true, beq_iff_eq, decide_eq_true_eq, Bool.false_eq_true, or_false]
  constructor
  · rintro (h | h)
    · exact .inl h.symm
    · exact .inr h.symm
  · rintro (h | h)
    · exact .inl h.symm
    · exact .inr h.symm
theorem seq_mid {σ : List SV} {P : List SV → Prop} {s t : GS} {E : Ed} (rest : ∀ σ', P σ' → t E σ') (h : ∀ E' : Ed, E'.rt = E.rt → (∀ σ', P σ' → E'.nx σ') → s E' σ) : gSeq s t E σ := h { E with nx := t E } rfl rest
theorem pok_of {n m b : Nat} {ys : List D} (h : ∀ y ∈ ys, Pok n m b y) : Pok (n + 1) m ((b + 2) * ys.length + 3) (.tup ys) ∧ Pok (n + 1) m ((b + 2) * ys.length + 3) (.lst ys) := by
  have : rps n ys = true ∧ sms (2 ^ m) ys = true ∧ rszs ys ≤ (b + 2) * ys.length := by
    induction ys with
    | nil => simp [rps, sms, rszs]
    | cons y ys ih =>
      obtain ⟨h1, h2, h3⟩ := ih fun z m => h z (List.mem_cons_of_mem _ m)
      have hy := h y List.mem_cons_self
      have hz := hy.z
      refine ⟨by simp [rps, hy.r, h1], by simp [sms, hy.b, h2], ?_⟩
      simp only [rszs, List.length_cons, Nat.mul_add, Nat.mul_one] at h3 ⊢
      omega
  obtain ⟨h1, h2, h3⟩ := this
  exact ⟨⟨by simpa only [rp] using h1, by simpa only [sm] using h2, by simp only [rsz]; omega⟩, ⟨by simpa only [rp] using h1, by simpa only [sm] using h2, by simp only [rsz]; omega⟩⟩
theorem cdv_scale {k a b d : Int} (hk : 1 ≤ k) (hd : d ≠ 0) : cdv (k * a) (k * b) (k * d) = k * cdv a b d := by
  unfold cdv
  rw [Int.natAbs_mul, Int.natAbs_mul, Int.natAbs_mul, Nat.gcd_mul_left, Nat.gcd_mul_left, Int.natCast_mul]
  have hn : ((k.natAbs : Nat) : Int) = k := by omega
  rw [hn]
  rcases Int.lt_or_gt_of_ne hd with h | h
  · have : k * d < 0 := Int.mul_neg_of_pos_of_neg (by omega) h
    rw [if_pos h, if_pos this, Int.mul_neg]
  · have : 0 < k * d := Int.mul_pos (by omega) h
    rw [if_neg (by omega), if_neg (by omega)]
theorem red_scale {k a b d : Int} (hk : 1 ≤ k) (hd : d ≠ 0) : red (k * a) (k * b) (k * d) = red a b d := by
  unfold red
  rw [cdv_scale hk hd, Int.mul_fdiv_mul_of_pos _ _ (by omega), Int.mul_fdiv_mul_of_pos _ _ (by omega), Int.mul_fdiv_mul_of_pos _ _ (by omega)]
/-- fractions that are the same are the same reduced -/
theorem red_cong {a b d a' b' d' : Int} (h : 1 ≤ d) (h' : 1 ≤ d') (e1 : a * d' = a' * d) (e2 : b * d' = b' * d) : red a b d = red a' b' d' := by
  rw [← red_scale (k := d') h' (by omega : d ≠ 0), ← red_scale (k := d) (a := a') h (by omega : d' ≠ 0), Int.mul_comm d' a, Int.mul_comm d' b, e1, e2, Int.mul_comm a' d, Int.mul_comm b' d, Int.mul_comm d' d]
/-- a reduced number, its parts -/
theorem red_parts {n : Nat} {a b d : Int} (ha : Sz n a) (hb : Sz n b) (hd : Sz n d) (h : 1 ≤ d) : ∃ x y z, red a b d = tri x y z ∧ Num n x y z ∧ x * d = a * z ∧ y * d = b * z := by
  obtain ⟨x, y, z, e, hn⟩ := red_num ha hb hd (by omega)
  obtain ⟨p, q, r, e2, h1, h2, h3⟩ := red_prop (a := a) (b := b) (d := d) (by omega)
  rw [e] at e2
  simp at e2
  obtain ⟨rfl, rfl, rfl⟩ := e2
  exact ⟨x, y, z, e, hn, h2, h3⟩
end ND

/-! ND44: tuples of integers, sides of floors, keys -/
namespace ND
open PySem PySem.Spec L2
def tD (s : List Int) : D := .tup (s.map D.int)
theorem eqvs_ints : ∀ s t : List Int, PyData.eqvAll (toPys (s.map D.int)) (toPys (t.map D.int)) = decide (s = t)
  | [], [] => rfl
  | [], _ :: _ => rfl
  | _ :: _, [] => rfl
  | x :: s, y :: t => by
    have h := eqvs_ints s t
    have e : PyData.eqvAll (toPys ((x :: s).map D.int)) (toPys ((y :: t).map D.int)) = ((x == y) && PyData.eqvAll (toPys (s.map D.int)) (toPys (t.map D.int))) := rfl
    rw [e, h, Bool.eq_iff_iff]
    simp
theorem eqb_tD (s t : List Int) : eqb (tD s) (tD t) = decide (s = t) := eqvs_ints s t
theorem eqb_il (s t : List Int) : eqb (.lst (s.map D.int)) (.lst (t.map D.int)) = decide (s = t) := eqvs_ints s t
theorem pls_int (n : Nat) : ∀ s : List Int, pls n (s.map D.int) = true
  | [] => rfl
  | x :: s => by simp [pls, pls_int n s]
theorem pl_tD (n : Nat) (s : List Int) : pl (n + 1) (tD s) = true := by
  show pls n (s.map D.int) = true
  exact pls_int n s
theorem pl_il (n : Nat) (s : List Int) : pl (n + 1) (.lst (s.map D.int)) = true := by
  show pls n (s.map D.int) = true
  exact pls_int n s
theorem pls_tDs (n : Nat) : ∀ L : List (List Int), pls (n + 1) (L.map tD) = true
  | [] => rfl
  | x :: s => by simp [pls, pl_tD, pls_tDs n s]
theorem pl_tDs (n : Nat) (L : List (List Int)) : pl (n + 2) (.tup (L.map tD)) = true ∧ pl (n + 2) (.lst (L.map tD)) = true := ⟨pls_tDs n L, pls_tDs n L⟩
theorem inb_tD (s : List Int) : ∀ L : List (List Int), inb (tD s) (L.map tD) = decide (s ∈ L)
  | [] => rfl
  | t :: L => by
    have h := inb_tD s L
    unfold inb at h ⊢
    rw [List.map_cons, List.any_cons, h, eqb_tD, Bool.eq_iff_iff, Bool.or_eq_true, decide_eq_true_eq, decide_eq_true_eq, decide_eq_true_eq, List.mem_cons]
    exact or_congr eq_comm Iff.rfl
theorem inb_i (r : Int) : ∀ l : List Int, inb (.int r) (l.map D.int) = decide (r ∈ l)
  | [] => rfl
  | t :: l => by
    have h := inb_i r l
    unfold inb at h ⊢
    have e : eqb (.int t) (.int r) = decide (t = r) := eqb_int t r
    rw [List.map_cons, List.any_cons, h, e, Bool.eq_iff_iff, Bool.or_eq_true, decide_eq_true_eq, decide_eq_true_eq, decide_eq_true_eq, List.mem_cons]
    exact or_congr eq_comm Iff.rfl
theorem tD_inj {s t : List Int} (h : tD s = tD t) : s = t := by
  have := eqb_tD s t
  rw [h, eqb_refl (n := 64) (pl_tD 63 t)] at this
  exact of_decide_eq_true this.symm
/-! ### sides -/
def dirs5 : List Int := [0, 1, 2, 3, 4]
def zer5 : List Int := [0, 0, 0, 0, 0]
def unit5 (r : Int) : List Int := dirs5.map fun j => if j = r then 1 else 0
def neg5 (s : List Int) : List Int := s.map fun x => -x
def ten5 : List (List Int) := [[-1, -1, 1, -1, 1], [-1, 1, -1, -1, 1], [-1, 1, -1, 1, -1], [-1, 1, -1, 1, 1], [-1, 1, 1, -1, 1], [1, -1, -1, 1, -1], [1, -1, 1, -1, -1], [1, -1, 1, -1, 1], [1, -1, 1, 1, -1], [1, 1, -1, 1, -1]]
def sidesL : List Int → List (List Int)
  | [] => [zer5]
  | [r] => [neg5 (unit5 r), unit5 r]
  | _ => ten5
/-- the ways in which keys can be whole -/
def WL : List (List Int) := [[], [0], [1], [2], [3], [4], [0, 1, 2, 3, 4]]
def chg (s : List Int) (r : Int) : List Int := s.zipIdx.map fun x => if ((x.2 : Nat) : Int) = r then -x.1 else x.1
def worms (wl s : List Int) : List Int := wl.filter fun r => decide (chg s r ∈ sidesL wl)
def at0 (s : List Int) (j : Int) : Int := s.getD j.toNat 0
def unl (s t : List Int) : List Int := dirs5.filter fun j => decide (at0 s j ≠ at0 t j)
/-! ### keys: (a r + b r g) / d -/
structure KR (a b : Int → Int) : Prop where
  k0 : a 2 = -b 1 - a 0 ∧ b 2 = -a 1 - b 1 - b 0
  k1 : a 3 = -b 2 - a 1 ∧ b 3 = -a 2 - b 2 - b 1
  k2 : a 4 = -b 3 - a 2 ∧ b 4 = -a 3 - b 3 - b 2
def whB (a b : Int → Int) (d r : Int) : Bool := decide (a r % d = 0) && decide (b r % d = 0)
def whL (a b : Int → Int) (d : Int) : List Int := dirs5.filter (whB a b d)
def keyD (a b : Int → Int) (d : Int) : D := .tup [red (a 0) (b 0) d, red (a 1) (b 1) d, red (a 2) (b 2) d, red (a 3) (b 3) d, red (a 4) (b 4) d]
abbrev pr (x y : Int) : D := .tup [.int x, .int y]
def keysP (a b : Int → Int) : D := .tup [pr (a 0) (b 0), pr (a 1) (b 1), pr (a 2) (b 2), pr (a 3) (b 3), pr (a 4) (b 4)]
structure KA (n : Nat) (a b : Int → Int) (d : Int) : Prop where
  r : KR a b
  d1 : 1 ≤ d
  sd : Sz n d
  sa : Szf n a
  sb : Szf n b
abbrev flo (k : D) (s : List Int) : D := .obj "Floor" [("all_keys", k), ("side", tD s)]
theorem mod_iff {a d : Int} : a % d = 0 ↔ ∃ k, a = d * k := ⟨fun h => ⟨a / d, by
  have := Int.mul_ediv_add_emod a d
  omega⟩, fun ⟨k, e⟩ => by rw [e]; exact Int.mul_emod_right d k⟩
theorem wh_iff {a b : Int → Int} {d r : Int} : whB a b d r = true ↔ (∃ k, a r = d * k) ∧ ∃ k, b r = d * k := by
  unfold whB
  rw [Bool.and_eq_true, decide_eq_true_eq, decide_eq_true_eq, mod_iff, mod_iff]
/-- the other two of the five laws -/
theorem KR.k3 {a b : Int → Int} (h : KR a b) : a 0 = -b 4 - a 3 ∧ b 0 = -a 4 - b 4 - b 3 := by
  obtain ⟨⟨a2, b2⟩, ⟨a3, b3⟩, ⟨a4, b4⟩⟩ := h
  omega
theorem KR.k4 {a b : Int → Int} (h : KR a b) : a 1 = -b 0 - a 4 ∧ b 1 = -a 0 - b 0 - b 4 := by
  obtain ⟨⟨a2, b2⟩, ⟨a3, b3⟩, ⟨a4, b4⟩⟩ := h
  omega
def Mu (d z : Int) : Prop := ∃ k, z = d * k
theorem Mu.add {d x y : Int} : Mu d x → Mu d y → Mu d (x + y) := fun ⟨k, e⟩ ⟨l, f⟩ => ⟨k + l, by rw [e, f, Int.mul_add]⟩
theorem Mu.neg {d x : Int} : Mu d x → Mu d (-x) := fun ⟨k, e⟩ => ⟨-k, by rw [e, Int.mul_neg]⟩
theorem Mu.sub {d x y : Int} (h : Mu d x) (k : Mu d y) : Mu d (x - y) := h.add k.neg
theorem mu_next {d p q r s u v : Int} (e1 : u = -s - p) (e2 : v = -r - s - q) (h : Mu d p ∧ Mu d q) (k : Mu d r ∧ Mu d s) : Mu d u ∧ Mu d v := by
  subst e1 e2
  exact ⟨k.2.neg.sub h.1, (k.1.neg.sub k.2).sub h.2⟩
theorem mu_mid {d p q r s u v : Int} (e1 : u = -s - p) (e2 : v = -r - s - q) (h : Mu d p ∧ Mu d q) (k : Mu d u ∧ Mu d v) : Mu d r ∧ Mu d s := by
  have hs : Mu d s := by
    have := (k.1.add h.1).neg
    rwa [show -(u + p) = s by omega] at this
  have := ((k.2.add h.2).neg).sub hs
  rw [show -(v + q) - s = r by omega] at this
  exact ⟨this, hs⟩
/-- two whole keys make all of them whole -/
theorem wh_all {a b : Int → Int} {d i j : Int} (h : KR a b) (hi : i ∈ dirs5) (hj : j ∈ dirs5) (hij : i < j) (w1 : whB a b d i = true) (w2 : whB a b d j = true) : whB a b d 0 = true ∧ whB a b d 1 = true ∧ whB a b d 2 = true ∧ whB a b d 3 = true ∧ whB a b d 4 = true := by
  obtain ⟨a3, b3⟩ := h.k3
  obtain ⟨a4, b4⟩ := h.k4
  obtain ⟨⟨a0, b0⟩, ⟨a1, b1⟩, ⟨a2, b2⟩⟩ := h
  simp only [wh_iff] at w1 w2 ⊢
  have fin : (Mu d (a 0) ∧ Mu d (b 0)) → (Mu d (a 1) ∧ Mu d (b 1)) → (Mu d (a 0) ∧ Mu d (b 0)) ∧ (Mu d (a 1) ∧ Mu d (b 1)) ∧ (Mu d (a 2) ∧ Mu d (b 2)) ∧ (Mu d (a 3) ∧ Mu d (b 3)) ∧ (Mu d (a 4) ∧ Mu d (b 4)) := fun h0 h1 => by
    have h2 := mu_next a0 b0 h0 h1
    have h3 := mu_next a1 b1 h1 h2
    exact ⟨h0, h1, h2, h3, mu_next a2 b2 h2 h3⟩
  simp only [dirs5, List.mem_cons, List.not_mem_nil, or_false] at hi hj
  rcases hi with rfl | rfl | rfl | rfl | rfl <;> rcases hj with rfl | rfl | rfl | rfl | rfl <;> first
    | (exfalso; omega)
    | skip
  · exact fin w1 w2
  · exact fin w1 (mu_mid a0 b0 w1 w2)
  · have h4 := mu_mid a3 b3 w2 w1
    exact fin w1 (mu_next a4 b4 h4 w1)
  · exact fin w1 (mu_next a4 b4 w2 w1)
  · have h3 := mu_next a1 b1 w1 w2
    have h4 := mu_next a2 b2 w2 h3
    exact fin (mu_next a3 b3 h3 h4) w1
  · have h2 := mu_mid a1 b1 w1 w2
    have h4 := mu_next a2 b2 h2 w2
    exact fin (mu_next a3 b3 w2 h4) w1
  · exact fin (mu_mid a4 b4 w2 w1) w1
  · have h4 := mu_next a2 b2 w1 w2
    have h0 := mu_next a3 b3 w2 h4
    exact fin h0 (mu_next a4 b4 h4 h0)
  · have h3 := mu_mid a2 b2 w1 w2
    have h0 := mu_next a3 b3 h3 w2
    exact fin h0 (mu_next a4 b4 w2 h0)
  · have h0 := mu_next a3 b3 w1 w2
    exact fin h0 (mu_next a4 b4 w2 h0)
theorem whL_mem {a b : Int → Int} {d : Int} (h : KR a b) : whL a b d ∈ WL := by
  unfold whL dirs5
  have all := fun i j hi hj hij => wh_all (d := d) (i := i) (j := j) h hi hj hij
  by_cases h0 : whB a b d 0 = true <;> by_cases h1 : whB a b d 1 = true <;> by_cases h2 : whB a b d 2 = true <;> by_cases h3 : whB a b d 3 = true <;> by_cases h4 : whB a b d 4 = true <;> first
    | (simp only [List.filter_cons, h0, h1, h2, h3, h4, if_true, if_false, List.filter_nil]; simp [WL]; done)
    | (exfalso
       first
       | (have := all 0 1 (by decide) (by decide) (by decide) h0 h1; simp_all)
       | (have := all 0 2 (by decide) (by decide) (by decide) h0 h2; simp_all)
       | (have := all 0 3 (by decide) (by decide) (by decide) h0 h3; simp_all)
       | (have := all 0 4 (by decide) (by decide) (by decide) h0 h4; simp_all)
       | (have := all 1 2 (by decide) (by decide) (by decide) h1 h2; simp_all)
       | (have := all 1 3 (by decide) (by decide) (by decide) h1 h3; simp_all)
       | (have := all 1 4 (by decide) (by decide) (by decide) h1 h4; simp_all)
       | (have := all 2 3 (by decide) (by decide) (by decide) h2 h3; simp_all)
       | (have := all 2 4 (by decide) (by decide) (by decide) h2 h4; simp_all)
       | (have := all 3 4 (by decide) (by decide) (by decide) h3 h4; simp_all))
/-! ### numbers as fractions -/
/-- x is the number (p + q g) / d -/
def Fr (n : Nat) (x : D) (p q d : Int) : Prop := ∃ u v w, x = tri u v w ∧ Num n u v w ∧ u * d = p * w ∧ v * d = q * w
theorem fr_red {n : Nat} {p q d : Int} (hp : Sz n p) (hq : Sz n q) (hd : Sz n d) (h : 1 ≤ d) : Fr n (red p q d) p q d := by
  obtain ⟨x, y, z, e, hn, e1, e2⟩ := red_parts hp hq hd h
  exact ⟨x, y, z, e, hn, e1, e2⟩
theorem fr_tri {n : Nat} {p q d k : Int} (hk : 1 ≤ k) (h : Num n (k * p) (k * q) (k * d)) : Fr n (tri (k * p) (k * q) (k * d)) p q d := ⟨_, _, _, rfl, h, by rw [Int.mul_assoc, Int.mul_left_comm], by rw [Int.mul_assoc, Int.mul_left_comm]⟩
end ND

/-! ND45: keys of floors: the next one; what is a side -/
namespace ND
open PySem PySem.Spec L2
/-- the next key of two -/
theorem key_next {p q r s u v d : Int} {x y z x' y' z' : Int} (e1 : u = -s - p) (e2 : v = -r - s - q) (h1 : x' * d = p * z') (h2 : y' * d = q * z') (k1 : x * d = r * z) (k2 : y * d = s * z) (hz : 1 ≤ z) (hz' : 1 ≤ z') (hd : 1 ≤ d) : red (-y * z' + -x' * z) (-(x + y) * z' + -y' * z) (z * z') = red u v d := by
  have hzz : 1 ≤ z * z' := Int.mul_le_mul hz hz' (by decide) (by omega)
  refine red_cong hzz hd ?_ ?_
  · subst e1
    clear e2 h2 k1 hzz hz hz' hd
    grind
  · subst e2
    clear e1 hzz hz hz' hd
    grind
def isSide (wl : List Int) (x : D) : Bool := isFive x && inb x ((sidesL wl).map tD)
theorem KA.up {n m : Nat} {a b : Int → Int} {d : Int} (h : KA n a b d) (e : n ≤ m) : KA m a b d := ⟨h.r, h.d1, h.sd.mono e, fun i i0 i4 => (h.sa i i0 i4).mono e, fun i i0 i4 => (h.sb i i0 i4).mono e⟩
theorem Fr.up {n m : Nat} {x : D} {p q d : Int} (h : Fr n x p q d) (e : n ≤ m) : Fr m x p q d := by
  obtain ⟨u, v, w, rfl, hn, e1, e2⟩ := h
  exact ⟨u, v, w, rfl, hn.up e, e1, e2⟩
theorem KA.fr {n : Nat} {a b : Int → Int} {d : Int} (h : KA n a b d) {r : Int} (r0 : 0 ≤ r) (r4 : r ≤ 4) : Fr n (red (a r) (b r) d) (a r) (b r) d := fr_red (h.sa r r0 r4) (h.sb r r0 r4) h.sd h.d1
/-- a fraction, reduced -/
theorem Fr.norm {u v w p q d : Int} (h1 : 1 ≤ w) (h2 : 1 ≤ d) (e1 : u * d = p * w) (e2 : v * d = q * w) : red u v w = red p q d := red_cong h1 h2 e1 e2
theorem wh_red {x y z p q d : Int} (hz : 1 ≤ z) (hd : 1 ≤ d) (e1 : x * d = p * z) (e2 : y * d = q * z) : wholeB x y z = (decide (p % d = 0) && decide (q % d = 0)) := by
  have one : ∀ {x p : Int}, x * d = p * z → (x % z = 0 ↔ p % d = 0) := fun {x p} e => by
    rw [mod_iff, mod_iff]
    constructor
    · rintro ⟨k, rfl⟩
      refine ⟨k, ?_⟩
      have : z * (d * k) = z * p := by rw [← Int.mul_comm p z, ← e]; grind
      exact (Int.eq_of_mul_eq_mul_left (by omega) this).symm
    · rintro ⟨k, rfl⟩
      refine ⟨k, ?_⟩
      have : d * x = d * (z * k) := by rw [Int.mul_comm d x, e]; grind
      exact Int.eq_of_mul_eq_mul_left (by omega) this
  unfold wholeB
  by_cases h : x % z = 0
  · rw [if_pos h, decide_eq_true ((one e1).mp h), Bool.true_and]
    exact decide_eq_decide.mpr (one e2)
  · rw [if_neg h, decide_eq_false fun k => h ((one e1).mpr k), Bool.false_and]
theorem pl_red (n : Nat) (a b d : Int) : pl (n + 1) (red a b d) = true := rfl
theorem pl_keyD (n : Nat) (a b : Int → Int) (d : Int) : pl (n + 2) (keyD a b d) = true := rfl
theorem sidesL_five : ∀ wl ∈ WL, ∀ s ∈ sidesL wl, s.length = 5 := by decide +kernel
theorem isSide_yes {wl s : List Int} (hw : wl ∈ WL) (h : s ∈ sidesL wl) : isSide wl (tD s) = true := by
  unfold isSide
  rw [inb_tD, decide_eq_true h, Bool.and_true]
  refine five_ok (by rw [List.length_map]; exact sidesL_five wl hw s h) ?_
  rw [List.all_map]
  exact List.all_eq_true.mpr fun _ _ => rfl
theorem tyk1_tD {known : Str → Bool} (s : List Int) : Ty1 known (tD s) := ⟨rfl, fun xs e y m => by
  cases e
  obtain ⟨i, _, rfl⟩ := List.mem_map.mp m
  rfl⟩
theorem five_list {s : List Int} (h : s.length = 5) : ∃ a b c d e, s = [a, b, c, d, e] := by
  match s, h with
  | [a, b, c, d, e], _ => exact ⟨a, b, c, d, e, rfl⟩
/-- sorted, where the items are known -/
theorem sort_is {L M : List (List Int)} {Q : List D → Prop} (hl : ∀ s ∈ M, s.length = 5) (hp : L.Perm M) (hs : L.Pairwise fun x y => lexI y x = false) (q : Q (L.map tD)) : sortT [.lst (M.map tD)] Q := by
  have hn : ∀ s : List Int, numsT (tD s) = s := numsT_map
  refine ⟨⟨5, by decide, fun x hx => ?_⟩, fun ys h1 h2 => ?_⟩
  · obtain ⟨s, hm, rfl⟩ := List.mem_map.mp hx
    exact ⟨s, rfl, hl s hm⟩
  · have e : ys = L.map tD := by
      refine List.Perm.eq_of_pairwise (le := fun x y => lexI (numsT y) (numsT x) = false) (fun a b ha hb h3 h4 => ?_) h2 ?_ (h1.trans (hp.map tD).symm)
      · obtain ⟨s, _, rfl⟩ := List.mem_map.mp (h1.mem_iff.mp ha)
        obtain ⟨t, _, rfl⟩ := List.mem_map.mp hb
        rw [hn, hn] at h3 h4
        rw [lexI_tot h4 h3]
      · rw [List.pairwise_map]
        exact hs.imp fun {x y} h => by rw [hn, hn]; exact h
    rw [e]
    exact q
/-! ### comprehensions by what they say -/
theorem lc_mf {σ : List SV} {i : Nat} {ft : GT} {fe : GE} {Q : List D → Prop} (c : D → Bool) (v : D → D) (hi : i < σ.length) : ∀ (xs acc : List D), (∀ x ∈ xs, ∀ Qd : Bool → Prop, Qd (c x) → ft (σ.set i (.d x)) Qd) → (∀ x ∈ xs, c x = true → ∀ Qd : D → Prop, Qd (v x) → fe (σ.set i (.d x)) Qd) → acc.length + xs.length ≤ sizeLine → Q (acc ++ (xs.filter c).map v) → lcG (ggName i) ft fe [i] σ Q xs acc
  | [], acc, _, _, _, q => by simpa [lcG] using q
  | x :: xs, acc, h, k, hl, q => by
    simp only [List.length_cons] at hl
    simp only [lcG, ggName, wipeD, List.set_set]
    refine h x List.mem_cons_self _ ?_
    have rest := fun acc' q' => lc_mf (Q := Q) c v hi xs acc' (fun y m => h y (List.mem_cons_of_mem _ m)) (fun y m => k y (List.mem_cons_of_mem _ m)) q'
    cases hc : c x
    · simp only [Bool.false_eq_true, if_false]
      exact rest acc (by omega) (by simpa [hc] using q)
    · simp only [if_true]
      refine k x List.mem_cons_self hc _ ?_
      exact ⟨by omega, rest _ (by simp; omega) (by simpa [hc] using q)⟩
theorem lc_map {σ : List SV} {i : Nat} {fe : GE} {Q : List D → Prop} (v : D → D) (hi : i < σ.length) (xs acc : List D) (k : ∀ x ∈ xs, ∀ Qd : D → Prop, Qd (v x) → fe (σ.set i (.d x)) Qd) (hl : acc.length + xs.length ≤ sizeLine) (q : Q (acc ++ xs.map v)) : lcG (ggName i) gYes fe [i] σ Q xs acc :=
  lc_mf (fun _ => true) v hi xs acc (fun _ _ _ q => q) (fun x m _ => k x m) hl (by rw [List.filter_eq_self.mpr fun _ _ => rfl]; exact q)
/-- what is said of integers, of data -/
def nB (p : Int → Bool) : D → Bool
  | .int r => p r
  | _ => false
def nV {α : Type} (z : α) (f : Int → α) : D → α
  | .int r => f r
  | _ => z
theorem filter_nB (p : Int → Bool) (l : List Int) : (l.map D.int).filter (nB p) = (l.filter p).map D.int := by
  rw [List.filter_map]
  rfl
theorem ints5_d : ND.intsFrom 0 5 = dirs5.map D.int := rfl
theorem map_nV (f : Int → D) (l : List Int) : (l.map D.int).map (nV .non f) = l.map f := by
  rw [List.map_map]
  rfl
/-- [.. for j in l if ..], l integers -/
theorem lc_n {σ : List SV} {i : Nat} {ft : GT} {fe : GE} {Q : List D → Prop} (c : Int → Bool) (v : Int → D) (l : List Int) (hi : i < σ.length) (h : ∀ x ∈ l, ∀ Qd : Bool → Prop, Qd (c x) → ft (σ.set i (.d (.int x))) Qd) (k : ∀ x ∈ l, c x = true → ∀ Qd : D → Prop, Qd (v x) → fe (σ.set i (.d (.int x))) Qd) (hl : l.length ≤ sizeLine) (q : Q ((l.filter c).map v)) : lcG (ggName i) ft fe [i] σ Q (l.map D.int) [] := by
  refine lc_mf (nB c) (nV .non v) hi _ [] (fun x m Qd q => ?_) (fun x m hc Qd q => ?_) (by simpa using hl) ?_
  · obtain ⟨j, hj, rfl⟩ := List.mem_map.mp m
    exact h j hj Qd q
  · obtain ⟨j, hj, rfl⟩ := List.mem_map.mp m
    exact k j hj hc Qd q
  · rw [filter_nB, map_nV]
    exact q
/-- [j for j in l if ..] -/
theorem lc_fn {σ : List SV} {i : Nat} {ft : GT} {Q : List D → Prop} (c : Int → Bool) (l : List Int) (hi : i < σ.length) (h : ∀ x ∈ l, ∀ Qd : Bool → Prop, Qd (c x) → ft (σ.set i (.d (.int x))) Qd) (hl : l.length ≤ sizeLine) (q : Q ((l.filter c).map D.int)) : lcG (ggName i) ft (gVar i) [i] σ Q (l.map D.int) [] :=
  lc_n c D.int l hi h (fun x _ _ Qd q => by
    show gVar i (σ.set i (.d (.int x))) Qd
    unfold gVar
    rw [List.getElem?_set_self hi]
    exact q) hl q
theorem dirs_in {r : Int} (h : r ∈ dirs5) : 0 ≤ r ∧ r ≤ 4 := by
  simp only [dirs5, List.mem_cons, List.not_mem_nil, or_false] at h
  omega
theorem in_dirs {r : Int} (h0 : 0 ≤ r) (h4 : r ≤ 4) : r ∈ dirs5 := by
  simp only [dirs5, List.mem_cons, List.not_mem_nil, or_false]
  omega
theorem whL_dir {a b : Int → Int} {d r : Int} (h : r ∈ whL a b d) : 0 ≤ r ∧ r ≤ 4 := dirs_in (List.mem_filter.mp h).1
/-- an item of the keys -/
theorem ix_key {a b : Int → Int} {d r : Int} (r0 : 0 ≤ r) (r4 : r ≤ 4) {Q : D → Prop} (q : Q (red (a r) (b r) d)) : ixD (keyD a b d) (.int r) Q := by
  rcases five_of r0 r4 with h | h | h | h | h <;> subst h <;> exact ⟨_, rfl, q⟩
theorem ix_keysP {a b : Int → Int} {r : Int} (r0 : 0 ≤ r) (r4 : r ≤ 4) {Q : D → Prop} (q : Q (pr (a r) (b r))) : ixD (keysP a b) (.int r) Q := by
  rcases five_of r0 r4 with h | h | h | h | h <;> subst h <;> exact ⟨_, rfl, q⟩
theorem at_five {s : List Int} (h : s.length = 5) {r : Int} (r0 : 0 ≤ r) (r4 : r ≤ 4) {Q : D → Prop} (q : Q (.int (at0 s r))) : ixD (tD s) (.int r) Q := by
  obtain ⟨a, b, c, d, e, rfl⟩ := five_list h
  rcases five_of r0 r4 with h | h | h | h | h <;> subst h <;> exact ⟨_, rfl, q⟩
/-- a for over range(n), by what holds before each turn -/
theorem forG_ix {gt : GG} {g : GS} {E : Ed} (S : Nat → List SV → Prop) (lo : Int) : ∀ (n i : Nat) (σ : List SV), S i σ → (∀ σ, S (i + n) σ → E.nx σ) →
    (∀ j, i ≤ j → j < i + n → ∀ σ, S j σ → ∀ E' : Ed, E'.rt = E.rt → (∀ σ2, S (j + 1) σ2 → E'.nx σ2) → (∀ σ2, S (j + 1) σ2 → E'.ct σ2) → gt (.int (lo + (j : Nat))) σ fun σ' => g E' σ') → forG gt g ((List.range' i n).map fun (j : Nat) => D.int (lo + (j : Int))) E σ
  | 0, i, σ, h, hn, _ => hn σ h
  | n + 1, i, σ, h, hn, step => by
    rw [List.range'_succ, List.map_cons]
    have rest : ∀ σ2, S (i + 1) σ2 → forG gt g ((List.range' (i + 1) n).map fun (j : Nat) => D.int (lo + (j : Int))) E σ2 := fun σ2 h2 =>
      forG_ix S lo n (i + 1) σ2 h2 (fun σ3 h3 => hn σ3 (by rw [show i + (n + 1) = i + 1 + n by omega]; exact h3)) fun j h0 h1 => step j (by omega) (by omega)
    exact step i (Nat.le_refl _) (by omega) σ h { E with nx := forG gt g _ E, ct := forG gt g _ E, bk := E.nx } rfl rest rest
theorem forG_rng {gt : GG} {g : GS} {E : Ed} (S : Nat → List SV → Prop) (lo : Int) (n : Nat) (σ : List SV) (h : S 0 σ) (hn : ∀ σ, S n σ → E.nx σ)
    (step : ∀ j, j < n → ∀ σ, S j σ → ∀ E' : Ed, E'.rt = E.rt → (∀ σ2, S (j + 1) σ2 → E'.nx σ2) → (∀ σ2, S (j + 1) σ2 → E'.ct σ2) → gt (.int (lo + (j : Nat))) σ fun σ' => g E' σ') : forG gt g (intsFrom lo n) E σ := by
  unfold intsFrom
  rw [List.range_eq_range']
  exact forG_ix S lo n 0 σ h (fun σ h => hn σ (by rwa [Nat.zero_add] at h)) fun j _ h1 => step j (by omega)
def rot5 (t : Int) : List Int := dirs5.map fun j => at0 [1, -1, 1, 1, -1] ((j - t) % 5)
def acc10 (n : Nat) : List (List Int) := (dirs5.take n).flatMap fun t => [rot5 t, neg5 (rot5 t)]
theorem acc10_perm : ten5.Perm (acc10 5) := by decide +kernel
theorem acc10_five : ∀ s ∈ acc10 5, s.length = 5 := by decide +kernel
theorem ten5_srt : ten5.Pairwise fun x y => lexI y x = false := by decide +kernel
theorem ints_nOf : ∀ {xs : List D}, xs.all isI = true → xs = (xs.map nOf).map D.int
  | [], _ => rfl
  | x :: xs, h => by
    simp only [List.all_cons, Bool.and_eq_true] at h
    obtain ⟨i, rfl⟩ := isI_n h.1
    rw [List.map_cons, List.map_cons, ← ints_nOf h.2]
    rfl
theorem tup_tD {xs : List D} (h : xs.all isI = true) : D.tup xs = tD (xs.map nOf) := congrArg D.tup (ints_nOf h)
/-! ### keys from two neighbours -/
theorem keys_ex {n : Nat} {r p q u v : Int} (r0 : 0 ≤ r) (r4 : r ≤ 4) (hp : Sz n p) (hq : Sz n q) (hu : Sz n u) (hv : Sz n v) : ∃ a b, KR a b ∧ a r = p ∧ b r = q ∧ a ((r + 1) % 5) = u ∧ b ((r + 1) % 5) = v ∧ Szf (n + 3) a ∧ Szf (n + 3) b := by
  have z1 : Sz (n + 3) p := hp.mono (by omega)
  have z2 : Sz (n + 3) q := hq.mono (by omega)
  have z3 : Sz (n + 3) u := hu.mono (by omega)
  have z4 : Sz (n + 3) v := hv.mono (by omega)
  have z5 : Sz (n + 3) (-v - p) := (hv.neg.sub hp).mono (by omega)
  have z6 : Sz (n + 3) (-u - v - q) := ((hu.neg.sub hv).sub (hq.mono (by omega))).mono (by omega)
  have z7 : Sz (n + 3) (v + q) := (hv.add hq).mono (by omega)
  have z8 : Sz (n + 3) (u + v + p + q) := ((hu.add hv).add (hp.mono (by omega))).add (hq.mono (by omega))
  have z9 : Sz (n + 3) (-u - q) := (hu.neg.sub hq).mono (by omega)
  have z0 : Sz (n + 3) (-v - p - q) := ((hv.neg.sub hp).sub (hq.mono (by omega))).mono (by omega)
  have sz : ∀ (f : Int → Int), Sz (n + 3) (f 0) → Sz (n + 3) (f 1) → Sz (n + 3) (f 2) → Sz (n + 3) (f 3) → Sz (n + 3) (f 4) → Szf (n + 3) f := fun f h0 h1 h2 h3 h4 i i0 i4 => by
    rcases five_of i0 i4 with rfl | rfl | rfl | rfl | rfl <;> assumption
  rcases five_of r0 r4 with rfl | rfl | rfl | rfl | rfl
  · exact ⟨at5 p u (-v - p) (v + q) (-u - q), at5 q v (-u - v - q) (u + v + p + q) (-v - p - q), ⟨by simp [at5], by simp [at5]; omega, by simp [at5]; omega⟩, rfl, rfl, rfl, rfl, sz _ z1 z3 z5 z7 z9, sz _ z2 z4 z6 z8 z0⟩
  · exact ⟨at5 (-u - q) p u (-v - p) (v + q), at5 (-v - p - q) q v (-u - v - q) (u + v + p + q), ⟨by simp [at5]; omega, by simp [at5], by simp [at5]; omega⟩, rfl, rfl, rfl, rfl, sz _ z9 z1 z3 z5 z7, sz _ z0 z2 z4 z6 z8⟩
  · exact ⟨at5 (v + q) (-u - q) p u (-v - p), at5 (u + v + p + q) (-v - p - q) q v (-u - v - q), ⟨by simp [at5]; omega, by simp [at5]; omega, by simp [at5]⟩, rfl, rfl, rfl, rfl, sz _ z7 z9 z1 z3 z5, sz _ z8 z0 z2 z4 z6⟩
  · exact ⟨at5 (-v - p) (v + q) (-u - q) p u, at5 (-u - v - q) (u + v + p + q) (-v - p - q) q v, ⟨by simp [at5]; omega, by simp [at5]; omega, by simp [at5]; omega⟩, rfl, rfl, rfl, rfl, sz _ z5 z7 z9 z1 z3, sz _ z6 z8 z0 z2 z4⟩
  · exact ⟨at5 u (-v - p) (v + q) (-u - q) p, at5 v (-u - v - q) (u + v + p + q) (-v - p - q) q, ⟨by simp [at5]; omega, by simp [at5]; omega, by simp [at5]; omega⟩, rfl, rfl, rfl, rfl, sz _ z3 z5 z7 z9 z1, sz _ z4 z6 z8 z0 z2⟩
/-- keys whose neighbours differ by multiples differ by multiples -/
theorem KR.sub {a b a' b' : Int → Int} (h : KR a b) (h' : KR a' b') : KR (fun i => a' i - a i) (fun i => b' i - b i) := by
  obtain ⟨⟨a2, b2⟩, ⟨a3, b3⟩, ⟨a4, b4⟩⟩ := h
  obtain ⟨⟨a2', b2'⟩, ⟨a3', b3'⟩, ⟨a4', b4'⟩⟩ := h'
  exact ⟨⟨by omega, by omega⟩, ⟨by omega, by omega⟩, ⟨by omega, by omega⟩⟩
theorem KR.mu {a b : Int → Int} {d r : Int} (h : KR a b) (r0 : 0 ≤ r) (r4 : r ≤ 4) (h1 : Mu d (a r) ∧ Mu d (b r)) (h2 : Mu d (a ((r + 1) % 5)) ∧ Mu d (b ((r + 1) % 5))) : ∀ i, 0 ≤ i → i ≤ 4 → Mu d (a i) ∧ Mu d (b i) := by
  have wh : ∀ i, Mu d (a i) ∧ Mu d (b i) → whB a b d i = true := fun i k => wh_iff.mpr k
  have : whB a b d 0 = true ∧ whB a b d 1 = true ∧ whB a b d 2 = true ∧ whB a b d 3 = true ∧ whB a b d 4 = true := by
    rcases five_of r0 r4 with rfl | rfl | rfl | rfl | rfl
    · exact wh_all h (by decide) (by decide) (by decide) (wh _ h1) (wh _ h2)
    · exact wh_all h (by decide) (by decide) (by decide) (wh _ h1) (wh _ h2)
    · exact wh_all h (by decide) (by decide) (by decide) (wh _ h1) (wh _ h2)
    · exact wh_all h (by decide) (by decide) (by decide) (wh _ h1) (wh _ h2)
    · exact wh_all h (by decide) (by decide) (by decide) (wh _ h2) (wh _ h1)
  intro i i0 i4
  obtain ⟨w0, w1, w2, w3, w4⟩ := this
  rcases five_of i0 i4 with rfl | rfl | rfl | rfl | rfl
  · exact wh_iff.mp w0
  · exact wh_iff.mp w1
  · exact wh_iff.mp w2
  · exact wh_iff.mp w3
  · exact wh_iff.mp w4
theorem whL_cong {a b a' b' : Int → Int} {d : Int} (h : ∀ i, 0 ≤ i → i ≤ 4 → Mu d (a' i - a i) ∧ Mu d (b' i - b i)) : whL a' b' d = whL a b d := by
  refine List.filter_congr fun i hi => ?_
  obtain ⟨i0, i4⟩ := dirs_in hi
  obtain ⟨⟨k, hk⟩, ⟨l, hl⟩⟩ := h i i0 i4
  have e1 : a' i % d = a i % d := by
    rw [show a' i = a i + d * k by omega, Int.add_mul_emod_self_left]
  have e2 : b' i % d = b i % d := by
    rw [show b' i = b i + d * l by omega, Int.add_mul_emod_self_left]
  unfold whB
  rw [e1, e2]
end ND

/-! ND46: zip of a tuple and a list -/
namespace ND
open PySem PySem.Spec L2
/-- it goes along the items of l, a list or a tuple, and stands before the i-th -/
def ItS (h : Heap) (it l : Addr) (i : Nat) (zs : Array Value) : Prop := (h.IsListIter it l i ∧ h.IsList l zs) ∨ (h.IsTupleIter it l i ∧ h.IsTuple l zs)
theorem ItS.keep {h h' : Heap} {it l : Addr} {i : Nat} {zs : Array Value} (x : ItS h it l i zs) (k1 : ∀ o, h.get? it = some o → h'.get? it = some o) (k2 : ∀ o, h.get? l = some o → h'.get? l = some o) : ItS h' it l i zs := by
  rcases x with ⟨a, b⟩ | ⟨a, ⟨o, ho, r⟩⟩
  · exact .inl ⟨a.at k1, b.at k2⟩
  · exact .inr ⟨a.at k1, o, k2 o ho, r⟩
section
variable {prog : Program} {w : World} {A : Around} {E : Value → Shared → Prop} {s : Shared}
theorem its_item {it l : Addr} {i : Nat} {zs : Array Value} {x : Value} {Q : Value → Shared → Prop} (hne : l ≠ it) (h : ItS s.heap it l i zs) (hx : zs[i]? = some x)
    (hQ : ∀ h', ItS h' it l (i + 1) zs → Heap.SameBut it s.heap h' → Q x { s with heap := h' }) : wpAny (model prog w) A (Builtin.SmallTypes.nextOf (.ref it)) Q E s := by
  rcases h with ⟨a, b⟩ | ⟨a, b⟩
  · exact wpAny_nextOf_list_item a b hx fun h' a' sb => hQ h' (.inl ⟨a', b.extBut sb.extBut hne⟩) sb
  · exact RZ.nextOf_tuple_item a b hx fun h' a' sb => hQ h' (.inr ⟨a', let ⟨o, ho, r⟩ := b; ⟨o, sb.extBut l o hne ho, r⟩⟩) sb
theorem its_end {it l : Addr} {i : Nat} {zs : Array Value} {Q : Value → Shared → Prop} (hh : A.handled = none) (h : ItS s.heap it l i zs) (hx : zs[i]? = none)
    (hE : ∀ h' e, Heap.ExtBut it s.heap h' → (∃ o, h'.get? e = some o ∧ o.cls = .type "StopIteration") → E (.ref e) { s with heap := h' }) : wpAny (model prog w) A (Builtin.SmallTypes.nextOf (.ref it)) Q E s := by
  rcases h with ⟨a, b⟩ | ⟨a, b⟩
  · exact wpAny_nextOf_list_end hh a b hx hE
  · exact RZ.nextOf_tuple_end hh a b hx hE
theorem zipS_item {z TI TO i1 i2 l1 l2 : Addr} {k1 k2 : Nat} {xs ys : Array Value} {x y a b : Value} {Q : Value → Shared → Prop} (D : ZipApart z TI TO i1 i2 l1 l2)
    (hz : IsZip s.heap z TI TO .none) (hTI : IsPair s.heap TI (.ref i1) (.ref i2)) (hTO : IsPair s.heap TO a b) (h1 : ItS s.heap i1 l1 k1 xs) (h2 : ItS s.heap i2 l2 k2 ys) (hx : xs[k1]? = some x) (hy : ys[k2]? = some y)
    (hQ : ∀ h', IsZip h' z TI TO (rawInt s.heap.objs.size) → IsPair h' TO x y → ItS h' i1 l1 (k1 + 1) xs → ItS h' i2 l2 (k2 + 1) ys → IsPair h' s.heap.objs.size x y → h'.objs.size = s.heap.objs.size + 1 →
      (∀ c o, c ≠ z → c ≠ TO → c ≠ i1 → c ≠ i2 → s.heap.get? c = some o → h'.get? c = some o) → Q (.ref s.heap.objs.size) { s with heap := h' }) :
    wpAny (model prog w) A (Builtin.«zip.__next__» ⟨[.ref z], []⟩) (fun fin s' => ∃ v, fin = .done (.ret v) ∧ Q v s') E s := by
  show wpAny _ _ (field (.ref z) 2 >>= _) _ _ _
  refine wpAny_bind (wpAny_field hz rfl (x := .bool false) rfl ?_)
  show wpAny _ _ (field (.ref z) 3 >>= _) _ _ _
  refine wpAny_bind (wpAny_field hz rfl (x := .ref TI) rfl ?_)
  refine wpAny_bind (wpAny_seqItems hTI rfl ?_)
  show wpAny _ _ (Builtin.SmallTypes.ownedTupleIsFree (.ref z) >>= _) _ _ _
  refine wpAny_bind ?_
  unfold Builtin.SmallTypes.ownedTupleIsFree
  refine wpAny_bind (wpAny_field hz rfl (x := .none) rfl (wpAny_pure ?_))
  simp only [if_true]
  refine wpAny_bind (wpAny_rule ?_)
  refine wpAny_bind (wpAny_field hz rfl (x := .ref TO) rfl ?_)
  refine wpAny_bind (wpAny_setField_rec hz (by simp) fun g1 hz1 s1 => ?_)
  replace hz1 : IsZip g1 z TI TO .ellipsis := hz1
  refine wpAny_bind ?_
  simp only [List.zipIdx_cons, List.zipIdx_nil, List.forIn_cons, List.forIn_nil]
  refine wpAny_bind (wpAny_bind (wpAny_onRaise ?_))
  show wpAny _ _ (Builtin.SmallTypes.nextOf (.ref i1) >>= _) _ _ _
  refine wpAny_bind (its_item D.l1i1 (h1.keep (fun o => s1.extBut _ o D.i1z) fun o => s1.extBut _ o D.l1z) hx fun g2 h12 s2 => wpAny_pure ?_)
  have hTO2 : IsPair g2 TO a b := s2.extBut _ _ D.TOi1 (s1.extBut _ _ D.TOz hTO)
  refine wpAny_bind (wpAny_seqItems hTO2 rfl ?_)
  refine wpAny_bind (wpAny_updateSeq_pair hTO2 fun g3 hTO3 s3 => ?_)
  replace hTO3 : IsPair g3 TO x b := hTO3
  refine wpAny_bind (wpAny_letGo (wpAny_pure ?_))
  refine wpAny_bind (wpAny_bind (wpAny_onRaise ?_))
  show wpAny _ _ (Builtin.SmallTypes.nextOf (.ref i2) >>= _) _ _ _
  have h23 : ItS g3 i2 l2 k2 ys := h2.keep (fun o e => s3.extBut _ o D.TOi2.symm (s2.extBut _ o D.i12.symm (s1.extBut _ o D.i2z e))) fun o e => s3.extBut _ o D.l2TO (s2.extBut _ o D.l2i1 (s1.extBut _ o D.l2z e))
  refine wpAny_bind (its_item D.l2i2 h23 hy fun g4 h24 s4 => wpAny_pure ?_)
  have hTO4 : IsPair g4 TO x b := s4.extBut _ _ D.TOi2 hTO3
  refine wpAny_bind (wpAny_seqItems hTO4 rfl ?_)
  refine wpAny_bind (wpAny_updateSeq_pair hTO4 fun g5 hTO5 s5 => ?_)
  replace hTO5 : IsPair g5 TO x y := hTO5
  refine wpAny_bind (wpAny_letGo (wpAny_pure (wpAny_pure ?_)))
  refine wpAny_bind (wpAny_seqItems hTO5 rfl ?_)
  refine wpAny_bind (wpAny_newTuple ?_)
  have hsz : g5.objs.size = s.heap.objs.size := by rw [s5.1, s4.1, s3.1, s2.1, s1.1]
  have hz5 : IsZip g5 z TI TO .ellipsis := s5.extBut _ _ D.TOz.symm (s4.extBut _ _ D.i2z.symm (s3.extBut _ _ D.TOz.symm (s2.extBut _ _ D.i1z.symm hz1)))
  have kp : ∀ c o, c ≠ z → c ≠ TO → c ≠ i1 → c ≠ i2 → s.heap.get? c = some o → g5.get? c = some o := fun c o c1 c2 c3 c4 e => s5.extBut _ _ c2 (s4.extBut _ _ c4 (s3.extBut _ _ c2 (s2.extBut _ _ c3 (s1.extBut _ _ c1 e))))
  have h15 : ItS g5 i1 l1 (k1 + 1) xs := h12.keep (fun o e => s5.extBut _ o D.TOi1.symm (s4.extBut _ o D.i12 (s3.extBut _ o D.TOi1.symm e))) fun o e => s5.extBut _ o D.l1TO (s4.extBut _ o D.l1i2 (s3.extBut _ o D.l1TO e))
  have h25 : ItS g5 i2 l2 (k2 + 1) ys := h24.keep (fun o e => s5.extBut _ o D.TOi2.symm e) fun o e => s5.extBut _ o D.l2TO e
  have hzlt : z < g5.objs.size := Heap.lt_size hz5
  show wpAny _ _ (Builtin.SmallTypes.ownedTupleHandOut (.ref z) (.ref g5.objs.size) >>= _) _ _ _
  refine wpAny_bind ?_
  unfold Builtin.SmallTypes.ownedTupleHandOut
  have hz6 : IsZip (g5.push { cls := .type "tuple", data := .seq #[x, y] }) z TI TO .ellipsis := Heap.get?_push_of_some _ hz5
  refine wpAny_bind (wpAny_setField_rec hz6 (by simp) fun g7 hz7 s7 => ?_)
  replace hz7 : IsZip g7 z TI TO (rawInt g5.objs.size) := hz7
  refine wpAny_setField_rec hz7 (by simp) fun g8 hz8 s8 => ?_
  replace hz8 : IsZip g8 z TI TO (rawInt g5.objs.size) := hz8
  have up : ∀ c o, c ≠ z → g5.get? c = some o → g8.get? c = some o := fun c o c1 e => s8.extBut _ _ c1 (s7.extBut _ _ c1 (Heap.get?_push_of_some _ e))
  have hT8 : IsPair g8 g5.objs.size x y := s8.extBut _ _ (Nat.ne_of_gt hzlt) (s7.extBut _ _ (Nat.ne_of_gt hzlt) (Heap.get?_push_size _ rfl))
  have sz8 : g8.objs.size = g5.objs.size + 1 := by rw [s8.1, s7.1, Heap.size_push]
  rw [hsz] at hz8 hT8 sz8
  refine wpAny_pure ⟨_, rfl, ?_⟩
  show Q (.ref g5.objs.size) _
  rw [hsz]
  exact hQ g8 hz8 (up _ _ D.TOz hTO5) (h15.keep (fun o e => up _ o D.i1z e) fun o e => up _ o D.l1z e) (h25.keep (fun o e => up _ o D.i2z e) fun o e => up _ o D.l2z e) hT8 sz8 fun c o c1 c2 c3 c4 e => up c o c1 (kp c o c1 c2 c3 c4 e)
theorem zipS_end {z TI TO i1 i2 l1 l2 : Addr} {k1 k2 : Nat} {xs ys : Array Value} {a b : Value} {Q : PySem.Fin → Shared → Prop} (hh : A.handled = none) (D : ZipApart z TI TO i1 i2 l1 l2)
    (hz : IsZip s.heap z TI TO .none) (hTI : IsPair s.heap TI (.ref i1) (.ref i2)) (hTO : IsPair s.heap TO a b) (h1 : ItS s.heap i1 l1 k1 xs) (h2 : ItS s.heap i2 l2 k2 ys) (hend : xs[k1]? = none ∨ ys[k2]? = none)
    (hE : ∀ h' e, (∀ c o, c ≠ z → c ≠ TO → c ≠ i1 → c ≠ i2 → s.heap.get? c = some o → h'.get? c = some o) → (∃ o, h'.get? e = some o ∧ o.cls = .type "StopIteration") → E (.ref e) { s with heap := h' }) :
    wpAny (model prog w) A (Builtin.«zip.__next__» ⟨[.ref z], []⟩) Q E s := by
  show wpAny _ _ (field (.ref z) 2 >>= _) _ _ _
  refine wpAny_bind (wpAny_field hz rfl (x := .bool false) rfl ?_)
  show wpAny _ _ (field (.ref z) 3 >>= _) _ _ _
  refine wpAny_bind (wpAny_field hz rfl (x := .ref TI) rfl ?_)
  refine wpAny_bind (wpAny_seqItems hTI rfl ?_)
  show wpAny _ _ (Builtin.SmallTypes.ownedTupleIsFree (.ref z) >>= _) _ _ _
  refine wpAny_bind ?_
  unfold Builtin.SmallTypes.ownedTupleIsFree
  refine wpAny_bind (wpAny_field hz rfl (x := .none) rfl (wpAny_pure ?_))
  simp only [if_true]
  refine wpAny_bind (wpAny_rule ?_)
  refine wpAny_bind (wpAny_field hz rfl (x := .ref TO) rfl ?_)
  refine wpAny_bind (wpAny_setField_rec hz (by simp) fun g1 hz1 s1 => ?_)
  replace hz1 : IsZip g1 z TI TO .ellipsis := hz1
  refine wpAny_bind ?_
  simp only [List.zipIdx_cons, List.zipIdx_nil, List.forIn_cons, List.forIn_nil]
  refine wpAny_bind (wpAny_bind (wpAny_onRaise ?_))
  show wpAny _ _ (Builtin.SmallTypes.nextOf (.ref i1) >>= _) _ _ _
  have h11 := h1.keep (fun o => s1.extBut _ o D.i1z) fun o => s1.extBut _ o D.l1z
  cases hx : xs[k1]? with
  | none =>
    refine wpAny_bind (its_end hh h11 hx fun g2 e s2 he => ?_)
    obtain ⟨oe, hoe, hce⟩ := he
    have hz2 : IsZip g2 z TI TO .ellipsis := s2 _ _ D.i1z.symm hz1
    have hez : e ≠ z := fun x => by subst x; rw [hz2] at hoe; cases hoe; simp at hce
    exact wpAny_setField_rec hz2 (by simp) fun g3 _ s3 => hE g3 e (fun c o c1 _ c3 _ x => s3.extBut _ _ c1 (s2 _ _ c3 (s1.extBut _ _ c1 x))) ⟨oe, s3.extBut _ _ hez hoe, hce⟩
  | some x =>
    have hy : ys[k2]? = none := by
      rcases hend with h | h
      · rw [hx] at h
        cases h
      · exact h
    refine wpAny_bind (its_item D.l1i1 h11 hx fun g2 h12 s2 => wpAny_pure ?_)
    have hTO2 : IsPair g2 TO a b := s2.extBut _ _ D.TOi1 (s1.extBut _ _ D.TOz hTO)
    refine wpAny_bind (wpAny_seqItems hTO2 rfl ?_)
    refine wpAny_bind (wpAny_updateSeq_pair hTO2 fun g3 hTO3 s3 => ?_)
    refine wpAny_bind (wpAny_letGo (wpAny_pure ?_))
    refine wpAny_bind (wpAny_bind (wpAny_onRaise ?_))
    show wpAny _ _ (Builtin.SmallTypes.nextOf (.ref i2) >>= _) _ _ _
    have h23 : ItS g3 i2 l2 k2 ys := h2.keep (fun o e => s3.extBut _ o D.TOi2.symm (s2.extBut _ o D.i12.symm (s1.extBut _ o D.i2z e))) fun o e => s3.extBut _ o D.l2TO (s2.extBut _ o D.l2i1 (s1.extBut _ o D.l2z e))
    refine wpAny_bind (its_end hh h23 hy fun g4 e s4 he => ?_)
    obtain ⟨oe, hoe, hce⟩ := he
    have hz4 : IsZip g4 z TI TO .ellipsis := s4 _ _ D.i2z.symm (s3.extBut _ _ D.TOz.symm (s2.extBut _ _ D.i1z.symm hz1))
    have hez : e ≠ z := fun x => by subst x; rw [hz4] at hoe; cases hoe; simp at hce
    exact wpAny_setField_rec hz4 (by simp) fun g5 _ s5 => hE g5 e (fun c o c1 c2 c3 c4 x => s5.extBut _ _ c1 (s4 _ _ c4 (s3.extBut _ _ c2 (s2.extBut _ _ c3 (s1.extBut _ _ c1 x))))) ⟨oe, s5.extBut _ _ hez hoe, hce⟩
end
/-! ### zip(a tuple, a list) -/
abbrev itO (t : String) (l : Addr) : Obj := { cls := .type t, data := .fields #[.ref l, .int 0 0] }
abbrev mz1 (h : Heap) (a : Addr) : Heap := h.push (itO "tuple_iterator" a)
abbrev mz2 (h : Heap) (a b : Addr) : Heap := (mz1 h a).push (itO "list_iterator" b)
abbrev mz3 (h : Heap) (a b : Addr) : Heap := (mz2 h a b).push { cls := .type "tuple", data := .seq #[.ref h.objs.size, .ref (mz1 h a).objs.size] }
abbrev mz4 (h : Heap) (a b : Addr) : Heap := (mz3 h a b).push { cls := .type "tuple", data := .seq #[.none, .none] }
abbrev mz5 (h : Heap) (a b : Addr) : Heap := (mz4 h a b).push { cls := .type "zip", data := .fields #[.none, .bool false, .bool false, .ref (mz2 h a b).objs.size, .ref (mz3 h a b).objs.size] }
theorem meets_zipM (a b : Addr) (xs ys : Array Value) :
    Meets (Builtin.«zip.__new__» ⟨[.type "zip", .ref a, .ref b], []⟩) (fun _ R s => s.heap.IsTuple a xs ∧ s.heap.IsList b ys ∧ R (.ok (.ret (.ref (mz4 s.heap a b).objs.size))) { s with heap := mz5 s.heap a b }) :=
  .of_wp fun prog w A R s h => by
    obtain ⟨hp, g, d, tk, os⟩ := s
    obtain ⟨ha, hb, h⟩ := h
    have hsub := sub_zip
    have e1 : Heap.IsTuple (Shared.heap ⟨hp, g, d, tk, os⟩) a xs := ha
    have e2 : Heap.IsList (Shared.heap ⟨hp.push (itO "tuple_iterator" a), g, d, tk, os⟩) b ys := Heap.IsList.at hb fun o e => Heap.get?_push_of_some _ e
    wp_walk using wpAny_pyIter_tuple e1, wpAny_pyIter_list e2
    exact ⟨_, rfl, h⟩
section
variable {prog : Program} {w : World} {A : Around} {E : Value → Shared → Prop} {s : Shared}
theorem call_zipM {a b : Addr} {xs ys : Array Value} {Q : Value → Shared → Prop} (ha : s.heap.IsTuple a xs) (hb : s.heap.IsList b ys)
    (h : ∀ h', IsZip h' (s.heap.objs.size + 4) (s.heap.objs.size + 2) (s.heap.objs.size + 3) .none → IsPair h' (s.heap.objs.size + 2) (.ref s.heap.objs.size) (.ref (s.heap.objs.size + 1)) →
      IsPair h' (s.heap.objs.size + 3) .none .none → h'.IsTupleIter s.heap.objs.size a 0 → h'.IsListIter (s.heap.objs.size + 1) b 0 → (∀ c o, s.heap.get? c = some o → h'.get? c = some o) → Q (.ref (s.heap.objs.size + 4)) { s with heap := h' }) :
    wpAny (model prog w) A (call (.type "zip") [.ref a, .ref b]) Q E s := by
  refine callType_new F.called_zip (by decide) (F.typeCall_zip_2 _ _) (F.newCall_zip_2 _ _) (fun obj => F.args_object_init_3 obj _ _) F.entry_zip_new (meets_zipM a b xs ys) ⟨ha, hb, ?_⟩
  have n1 : (mz1 s.heap a).objs.size = s.heap.objs.size + 1 := Heap.size_push ..
  have n2 : (mz2 s.heap a b).objs.size = s.heap.objs.size + 2 := by rw [Heap.size_push, n1]
  have n3 : (mz3 s.heap a b).objs.size = s.heap.objs.size + 3 := by rw [Heap.size_push, n2]
  have n4 : (mz4 s.heap a b).objs.size = s.heap.objs.size + 4 := by rw [Heap.size_push, n3]
  have up : ∀ (g : Heap) (o : Obj) c u, g.get? c = some u → (g.push o).get? c = some u := fun g o c u e => Heap.get?_push_of_some _ e
  have g5 : (mz5 s.heap a b).get? (mz4 s.heap a b).objs.size = some _ := Heap.get?_push_size _ rfl
  have g4 : (mz5 s.heap a b).get? (mz3 s.heap a b).objs.size = some _ := up _ _ _ _ (Heap.get?_push_size _ rfl)
  have g3 : (mz5 s.heap a b).get? (mz2 s.heap a b).objs.size = some _ := up _ _ _ _ (up _ _ _ _ (Heap.get?_push_size _ rfl))
  have g2 : (mz5 s.heap a b).get? (mz1 s.heap a).objs.size = some _ := up _ _ _ _ (up _ _ _ _ (up _ _ _ _ (Heap.get?_push_size _ rfl)))
  have g1 : (mz5 s.heap a b).get? s.heap.objs.size = some _ := up _ _ _ _ (up _ _ _ _ (up _ _ _ _ (up _ _ _ _ (Heap.get?_push_size _ rfl))))
  show _ ∧ _
  rw [n2, n3, n4] at g5
  rw [n1, n2] at g3
  rw [n3] at g4
  rw [n1] at g2
  rw [n4]
  exact ⟨⟨_, g5, rfl⟩, h _ g5 g3 g4 ⟨_, g1, rfl, rfl⟩ ⟨_, g2, rfl, rfl⟩ fun c o x => up _ _ _ _ (up _ _ _ _ (up _ _ _ _ (up _ _ _ _ (up _ _ _ _ x))))⟩
end
/-- the tuple at a and the list at b, the items in new pairs -/
def ItzM (K : PySem.W.Frag) (a b : Addr) : It :=
  ⟨fun i H => ∃ (xs ys : List V) (x y : V), SqT K H a xs ∧ SqL K H b ys ∧ xs[i]? = some x ∧ ys[i]? = some y,
    fun i H v H' => ∃ T x y, v = .ref T ∧ H T = none ∧ H' = upd H T (.tup [x, y]) ∧ (∀ xs, SqT K H a xs → xs[i]? = some x) ∧ ∀ ys, SqL K H b ys → ys[i]? = some y,
    fun i H => ∃ xs ys : List V, SqT K H a xs ∧ SqL K H b ys ∧ (xs.length ≤ i ∨ ys.length ≤ i)⟩
theorem turn_zipM {P : Program} {w : World} {K : PySem.W.Frag} {elts : List Expr} {kk : Nat} {tpos : Pos} {a b z TI TO i1 i2 : Addr} (D : ZipApart z TI TO i1 i2 a b) :
    Turn P w K (.Tuple elts kk tpos) (ItzM K a b) [z, TI, TO, i1, i2] z (fun i h => IsZip h z TI TO .none ∧ IsPair h TI (.ref i1) (.ref i2) ∧ (∃ x y, IsPair h TO x y) ∧ h.IsTupleIter i1 a i ∧ h.IsListIter i2 b i) where
  mem := by simp
  obj := fun i h st c hc => by
    obtain ⟨hz, hTI, ⟨x, y, hTO⟩, ⟨o1, e1, _, d1⟩, ⟨o2, e2, _, d2⟩⟩ := st
    simp only [List.mem_cons, List.not_mem_nil, or_false] at hc
    rcases hc with rfl | rfl | rfl | rfl | rfl
    · exact ⟨_, hz, fun v q => nomatch q⟩
    · exact ⟨_, hTI, fun v q => nomatch q⟩
    · exact ⟨_, hTO, fun v q => nomatch q⟩
    · exact ⟨o1, e1, fun v q => by rw [d1] at q; cases q⟩
    · exact ⟨o2, e2, fun v q => by rw [d2] at q; cases q⟩
  keep := fun i h h' st k => by
    obtain ⟨hz, hTI, ⟨x, y, hTO⟩, h1, h2⟩ := st
    exact ⟨k z (by simp) _ hz, k TI (by simp) _ hTI, ⟨x, y, k TO (by simp) _ hTO⟩, h1.at fun o q => k i1 (by simp) o q, h2.at fun o q => k i2 (by simp) o q⟩
  item := by
    intro X hP hw hK hc i pins s σ H E I hf st hg
    subst hP hw hK
    obtain ⟨hz, hTI, ⟨x0, y0, hTO⟩, h1, h2⟩ := st
    obtain ⟨xs, ys, x, y, hqx, hqy, hx, hy⟩ := hg
    obtain ⟨its, rv, p1, _⟩ := I.tuple hqx
    obtain ⟨jts, rw', p2, _⟩ := I.list hqy
    obtain ⟨u, hu, ru⟩ := rv.get hx
    obtain ⟨u2, hu2, ru2⟩ := rw'.get hy
    have hzl : z < s.heap.objs.size := Heap.lt_size hz
    have hT : s.TypeIs (.ref z) "zip" := ⟨_, hz, rfl⟩
    unfold pyNext
    refine wpAny_bind (wpAny_attempt (wpAny_callSpecial?_slot (name := Str.ofString "__next__") hT F.slot_zip_next (wpAny_call_entry F.slot_zip_next hT F.entry_zip_next
      (zipS_item D hz hTI hTO (.inr ⟨h1, p1⟩) (.inl ⟨h2, p2.isList⟩) (x := u) (y := u2) (by simpa using hu) (by simpa using hu2) fun h' z' TO' h1' h2' hN hsz hk => wpAny_pure ?_) (F.args_zip_next_1 _))))
    refine ⟨_, rfl, wpAny_letOwnedTupleGo_zip (s := { s with heap := h' }) z' fun h'' z'' sb => ?_⟩
    have hT2 : h''.get? s.heap.objs.size = some { cls := .type "tuple", data := .seq #[u, u2] } := (sb.2 _ (Nat.ne_of_gt hzl)).trans hN
    have new : ObjOk X.prog X.w (upd H s.heap.objs.size (.tup [x, y])) h'' s.heap.objs.size (.tup [x, y]) := ⟨by show 2 ≤ sizeLine; decide, [u, u2], .cons ru (.cons ru2 .nil), ⟨_, hT2, rfl, _, rfl⟩⟩
    have kk2 : ∀ c o, c ∉ [z, TI, TO, i1, i2] → s.heap.get? c = some o → h''.get? c = some o := fun c o hb q => by
      simp only [List.mem_cons, List.not_mem_nil, or_false, not_or] at hb
      exact (sb.2 c hb.1).trans (hk c o hb.1 hb.2.2.1 hb.2.2.2.1 hb.2.2.2.2 q)
    have I1 : Inv X pins σ (upd H s.heap.objs.size (.tup [x, y])) { s with heap := h'' } := I.turnedNew (t' := s.toks) (ch := [z, TI, TO, i1, i2]) kk2 hf (Nat.le_refl _) new
    have f1 : h''.IsTupleIter i1 a (i + 1) := by
      rcases h1' with ⟨q, _⟩ | ⟨q, _⟩
      · rename_i hl
        exfalso
        obtain ⟨ol, hol, hcl, _⟩ := hl
        obtain ⟨ot, hot, hct, _⟩ := id p1
        rw [hk a ot D.l1z D.l1TO D.l1i1 D.l1i2 hot] at hol
        injection hol with hol
        rw [← hol, hct] at hcl
        injection hcl with hcl
        exact absurd hcl (by decide)
      · exact q.at fun o e => (sb.2 i1 D.i1z).trans e
    have f2 : h''.IsListIter i2 b (i + 1) := by
      rcases h2' with ⟨q, _⟩ | ⟨_, q⟩
      · exact q.at fun o e => (sb.2 i2 D.i2z).trans e
      · exfalso
        obtain ⟨ol, hol, hcl, _⟩ := q
        obtain ⟨ob, hob, hcb, _⟩ := p2.isList
        rw [hk b ob D.l2z D.l2TO D.l2i1 D.l2i2 hob] at hol
        injection hol with hol
        rw [← hol, hcb] at hcl
        injection hcl with hcl
        exact absurd hcl (by decide)
    refine ⟨.ref s.heap.objs.size, _, I1, rfl, ⟨_, x, y, rfl, I.hok.fresh (Nat.le_refl _), rfl, fun l hl => by rw [I.tuple_inj hl hqx]; exact hx, fun l hl => by rw [I.list_inj hl hqy]; exact hy⟩, ⟨z'', ?_, ⟨u, u2, ?_⟩, f1, f2⟩, fun c hcm => ?_⟩
    · exact (sb.2 _ D.TIz).trans (hk _ _ D.TIz D.TITO D.TIi1 D.TIi2 hTI)
    · exact (sb.2 _ D.TOz).trans TO'
    · have hlt : c < s.heap.objs.size := by
        simp only [List.mem_cons, List.not_mem_nil, or_false] at hcm
        rcases hcm with rfl | rfl | rfl | rfl | rfl
        · exact hzl
        · exact Heap.lt_size hTI
        · exact Heap.lt_size hTO
        · obtain ⟨_, e1, _⟩ := h1; exact Heap.lt_size e1
        · obtain ⟨_, e2, _⟩ := h2; exact Heap.lt_size e2
      rw [upd_ne (Nat.ne_of_lt hlt)]
      exact (hf c hcm).1
  done := by
    intro X hP hw hK hc i pins s σ H E I hf st hg
    subst hP hw hK
    obtain ⟨hz, hTI, ⟨x0, y0, hTO⟩, h1, h2⟩ := st
    obtain ⟨xs, ys, hqx, hqy, hend⟩ := hg
    obtain ⟨its, rv, p1, _⟩ := I.tuple hqx
    obtain ⟨jts, rw', p2, _⟩ := I.list hqy
    have l1 := rv.length
    have l2 := rw'.length
    have he : its.toArray[i]? = none ∨ jts.toArray[i]? = none := by
      rcases hend with q | q
      · exact .inl (by simp; omega)
      · exact .inr (by simp; omega)
    have hT : s.TypeIs (.ref z) "zip" := ⟨_, hz, rfl⟩
    unfold pyNext
    refine wpAny_bind (wpAny_attempt (wpAny_callSpecial?_slot (name := Str.ofString "__next__") hT F.slot_zip_next (wpAny_call_entry F.slot_zip_next hT F.entry_zip_next
      (zipS_end (A := X.A.in1) (I.ok.hd hc) D hz hTI hTO (.inr ⟨h1, p1⟩) (.inl ⟨h2, p2.isList⟩) he fun h' e hk ho => ?_) (F.args_zip_next_1 _))))
    obtain ⟨o, ho, hcl⟩ := ho
    refine wpAny_bind (wpAny_isInstance (T := "StopIteration") (b := true) ⟨o, ho, hcl⟩ isSubtype_stop ?_)
    exact wpAny_pure ⟨rfl, I.turnedL (t' := s.toks) (ch := [z, TI, TO, i1, i2]) (fun c o hb q => by
      simp only [List.mem_cons, List.not_mem_nil, or_false, not_or] at hb
      exact hk c o hb.1 hb.2.2.1 hb.2.2.2.1 hb.2.2.2.2 q) hf⟩
  self := fun A i s Q E st h => wpAny_pyIter_zip st.1 h
def iZipM (K : PySem.W.Frag) (ta : TA) : TI := fun σ H R => ta σ H fun vs H1 => ∃ a b xs ys, vs = [.ref a, .ref b] ∧ SqT K H1 a xs ∧ SqL K H1 b ys ∧ R (ItzM K a b) H1
theorem pi_zipM {X : Cx} {e e2 : Expr} {ta : TA} {p pos tpos : Pos} {elts : List Expr} {kk : Nat} (hg : Gl X "zip") (hm : X.mg "zip" = none) (ha : PA X [e, e2] ta)
    (hs : starEach [e, e2] X.env = (false, eval e X.env) :: starEach [e2] X.env := by rfl) (hpl : (backTo pos (starEach [e2] X.env)).any (·.1) = false := by rfl) :
    PI X (.Tuple elts kk tpos) (.Call (.Name "zip" p) [e, e2] [] pos) (iZipM X.K ta) := by
  refine ⟨fun pins s σ H R I h => ?_⟩
  refine PyProof.Rows.Call_ (ld_blt I hg hm PyProof.Rows.boot_zip (PyProof.Rows.callWith_type1 (thn (ha.run pos pins s σ H _ I h) fun us s1 ⟨vs, H1, I1, r1, q1⟩ => ?_) hs hpl))
  obtain ⟨a, b, xs, ys, ex, hqx, hqy, q⟩ := q1
  subst ex
  cases r1 with
  | cons r rr =>
    cases rr with
    | cons r' rr =>
      cases rr
      cases r
      cases r'
      obtain ⟨its, rv, p1, _⟩ := I1.tuple hqx
      obtain ⟨jts, rw', p2, _⟩ := I1.list hqy
      obtain ⟨o1, ho1, _⟩ := id p1
      refine call_zipM (show s1.heap.IsTuple a its.toArray from p1) p2.isList fun h' hz hTI hTO h1 h2 hk => wpAny_pyIter_zip hz ?_
      have I2 : Inv X pins σ H1 { s1 with heap := h' } := I1.kept (t' := s1.toks) hk
      refine ⟨s1.heap.objs.size + 4, [s1.heap.objs.size + 4, s1.heap.objs.size + 2, s1.heap.objs.size + 3, s1.heap.objs.size, s1.heap.objs.size + 1], _, _, H1, rfl, I2, turn_zipM (PySem.W.ktu_apart s1.heap.objs.size a b (Heap.lt_size ho1) p2.lt), ⟨hz, hTI, ⟨_, _, hTO⟩, h1, h2⟩, fun c hcm => ?_, q⟩
      have hle : s1.heap.objs.size ≤ c := by
        simp only [List.mem_cons, List.not_mem_nil, or_false] at hcm
        rcases hcm with rfl | rfl | rfl | rfl | rfl
        · exact Nat.le_add_right _ _
        · exact Nat.le_add_right _ _
        · exact Nat.le_add_right _ _
        · exact Nat.le_refl _
        · exact Nat.le_add_right _ _
      exact I1.fpOk hle (I1.hok.fresh hle)
section
variable {B : Bs} {X : Cx} {e e2 : Expr} {pos : Pos}
theorem itOk_zipM {K : Kn} {a b : Addr} {vs us : List V} {xs ys : List D} {F : Hp} (h : SqT K.K F a vs) (r : Reps K F vs xs) (h2 : F b = some (.lst us)) (r2 : Reps K F us ys) : ItOk B K (ItzM K.K a b) (zipL xs ys) F := by
  refine ⟨fun F' H' i d e1 e2 dk hd => ?_, fun F' H' i e1 e2 hi => ⟨vs, us, same_t e2 (same_t e1 h), SqL.of (e2 _ _ (e1 _ _ h2)), by
    rw [r.length, r2.length]
    simp only [zipL, List.length_zipWith] at hi
    omega⟩⟩
  obtain ⟨x, y, hx, hy, rfl⟩ := zipL_at hd
  have ha : SqT K.K H' a vs := same_t e2 (same_t e1 h)
  have hb : SqL K.K H' b us := SqL.of (e2 _ _ (e1 _ _ h2))
  obtain ⟨v, hv, rv⟩ := r.get hx
  obtain ⟨u, hu, ru⟩ := r2.get hy
  refine ⟨⟨vs, us, v, u, ha, hb, hv, hu⟩, fun z H'' ⟨T, v', u', e, hT, eH, fv, fu⟩ => ?_⟩
  subst e eH
  have z1 := fv vs ha
  rw [hv] at z1
  cases z1
  have z2 := fu us hb
  rw [hu] at z2
  cases z2
  have fT := e2.free hT
  exact ⟨_, Grow.frz e2 hT, dk.frz hT, .tup (SqT.of upd_same) (.cons ((rv.mono e1).mono (same_new fT)) (.cons ((ru.mono e1).mono (same_new fT)) .nil))⟩
def zipMD : List D → (List D → Prop) → Prop
  | [.tup xs, .lst ys], Q => Q (zipL xs ys)
  | _, _ => False
@[simp] def gZipM (fs : GA) (σ : List SV) (Q : List D → Prop) : Prop := fs σ fun ds => zipMD ds Q
theorem pid_zipM {p tpos : Pos} {elts : List Expr} {kk : Nat} {fs : GA} (hg : Gl X "zip") (hm : X.mg "zip" = none) (ha : AD B X [e, e2] fs)
    (hs : starEach [e, e2] X.env = (false, eval e X.env) :: starEach [e2] X.env := by rfl) (hpl : (backTo pos (starEach [e2] X.env)).any (·.1) = false := by rfl) :
    PID B X (.Tuple elts kk tpos) (.Call (.Name "zip" p) [e, e2] [] pos) (gZipM fs) :=
  ⟨pi_imp (pi_zipM hg hm ha.run hs hpl) fun s H R ⟨σ, F, Qd, Rl, q, k⟩ => ⟨σ, F, _, Rl, q, fun ds qd F1 H1 vs g1 d1 r1 => by
    unfold zipMD at qd
    split at qd
    · cases r1 with
      | cons r t =>
        cases t with
        | cons r' t =>
          cases t
          cases r with
          | tup h r =>
            cases r' with
            | lst h2 r2 => exact ⟨_, _, _, _, rfl, same_t g1.fh h, SqL.of (g1.fh _ _ h2), k _ qd F1 H1 _ g1 d1 (itOk_zipM h r h2 r2)⟩
    · exact qd.elim⟩⟩
end
end ND

/-! ND47: dict displays of several pairs, the bits of an int -/
namespace ND
open PySem PySem.Spec L2
/-- the pairs of a display, by data -/
def gPs : List (Key × GE) → List SV → (List (Key × D) → Prop) → Prop
  | [], _, Q => Q []
  | (k, f) :: r, σ, Q => f σ fun x => gPs r σ fun ps => Q ((k, x) :: ps)
@[simp] theorem gPs_nil (σ : List SV) (Q : List (Key × D) → Prop) : gPs [] σ Q = Q [] := rfl
@[simp] theorem gPs_cons (k : Key) (f : GE) (r : List (Key × GE)) (σ : List SV) (Q : List (Key × D) → Prop) : gPs ((k, f) :: r) σ Q = f σ fun x => gPs r σ fun ps => Q ((k, x) :: ps) := rfl
@[simp] def gDics (fs : List (Key × GE)) (σ : List SV) (Q : D → Prop) : Prop := gPs fs σ fun ps => Q (.dic ps)
structure PsD (B : Bs) (X : Cx) (pos : Pos) (keys : List (Option Expr)) (vals : List Expr) (fs : List (Key × GE)) : Prop where
  run : ∃ trs, PPs X pos keys vals trs ∧ ∀ s H (Q : List (V × V) → Hp → Prop) σ F Qd, Rel B X.kn σ s F H → gPs fs σ Qd →
    (∀ ps, Qd ps → ∀ F' H' (kvs : List (Key × V)), Grow B.W F H F' H' → DeckIn B.W F' H' → RepKs X.kn F' kvs ps → kvs.map Prod.fst = fs.map Prod.fst → Q (kvs.map fun kv => (kV kv.1, kv.2)) H') → tPairs trs s H Q
section
variable {B : Bs} {X : Cx} {pos : Pos} {keys : List (Option Expr)} {vals : List Expr} {fs : List (Key × GE)}
theorem psd_nil : PsD B X pos [] [] [] := ⟨[], pps_nil, fun s H Q σ F Qd R q k => k [] q F H [] (Grow.refl R.ex) R.deck .nil rfl⟩
theorem psd_cons {kx vx : Expr} {k : Key} {f : GE} (hk : PE X kx (tC (kV k))) (ha : ED B X vx f) (h : PsD B X pos keys vals fs) : PsD B X pos (some kx :: keys) (vx :: vals) ((k, f) :: fs) := by
  obtain ⟨trs, hp, ht⟩ := h.run
  refine ⟨_, pps_cons hk ha.run hp, fun s H Q σ F Qd R q kk => ?_⟩
  refine ⟨σ, F, _, R, q, fun x qx F2 H2 v g2 d2 r2 => ?_⟩
  refine ht s H2 _ σ F2 _ (R.grow g2 d2) qx fun ps qps F3 H3 kvs g3 d3 r3 e3 => ?_
  exact kk _ qps F3 H3 ((k, v) :: kvs) (g2.trans g3) d3 (.cons (r2.mono g3.ff) r3) (by rw [List.map_cons, List.map_cons, e3])
theorem merge_new : ∀ (more acc : List (Key × V)), (∀ p ∈ more, ∀ q ∈ acc, q.1 ≠ p.1) → (more.map Prod.fst).Nodup → mergeK acc more = acc ++ more
  | [], acc, _, _ => by simp [mergeK]
  | p :: r, acc, h, nd => by
    have e : putK acc p.1 p.2 = acc ++ [p] := by
      unfold putK
      rw [if_neg]
      intro z
      obtain ⟨q, hq, e⟩ := List.any_eq_true.mp z
      exact h p List.mem_cons_self q hq (of_decide_eq_true e)
    rw [List.map_cons, List.nodup_cons] at nd
    have ih := merge_new r (acc ++ [p]) (fun p' hp' q hq => by
      rcases List.mem_append.mp hq with hq | hq
      · exact h p' (List.mem_cons_of_mem _ hp') q hq
      · rw [List.mem_singleton] at hq
        subst hq
        intro e
        exact nd.1 (by rw [e]; exact List.mem_map.mpr ⟨p', hp', rfl⟩)) nd.2
    unfold mergeK at ih ⊢
    rw [List.foldl_cons, e, ih, List.append_assoc]
    rfl
theorem ed_dics (h : PsD B X pos keys vals fs) (nd : (fs.map Prod.fst).Nodup) (h15 : fs.length ≤ 15) (hall : keys.all (·.isSome) = true) (hl : keys.length = vals.length) (h0 : keys ≠ []) (hk : keys.length ≤ 15) : ED B X (.Dict keys vals pos) (gDics fs) := by
  obtain ⟨trs, hp, ht⟩ := h.run
  refine ⟨pe_imp (pe_disp hp hall hl h0 hk) fun s H Q ⟨σ, F, Qd, R, q, kf⟩ => fun p hp => ?_⟩
  have R1 := R.grow (Grow.laid (o := .dK []) R.ex hp) (R.deck.laid hp)
  refine ht s _ _ σ F _ R1 q fun ps qps F2 H2 kvs g2 d2 r2 ek => ?_
  have fp : F p = none := R.ex.free hp
  have nw : ¬ InW B.W p := fun w => (R.deck.w w).2 hp
  have e2 : H2 p = some (.dK []) := g2.hh p _ upd_same nw (by intro _ z; cases z)
  have g := (Grow.laid (W := B.W) (o := .dK []) R.ex hp).trans g2
  have f2 : F2 p = none := g2.new p fp (by rw [upd_same]; exact Option.some_ne_none _)
  have em : mergeK [] kvs = kvs := by
    rw [merge_new kvs [] (fun _ _ _ z => by cases z) (by rw [ek]; exact nd)]
    rfl
  have lk : kvs.length ≤ 15 := by
    have := congrArg List.length ek
    rw [List.length_map, List.length_map] at this
    omega
  refine ⟨e2, kvs, rfl, lk, ?_⟩
  rw [em]
  have gw := g.write (o := .dK kvs) hp f2
  have dw := R.deck.write (o := .dK kvs) d2 hp fun φ z => by rw [e2] at z; cases z
  exact kf _ qps _ _ _ (gw.freeze hp f2 upd_same) (R.deck.freeze dw hp) (.dic upd_same (r2.mono (same_new f2)))
/-! ### x.bit_length() -/
def bitsD : D → (D → Prop) → Prop
  | .int i, Q => Q (.int (Builtin.Int.intBits i : Nat))
  | _, _ => False
@[simp] theorem bitsD_i (i : Int) (Q : D → Prop) : bitsD (.int i) Q = Q (.int (Builtin.Int.intBits i : Nat)) := rfl
theorem ed_bits {a : Expr} {fa : GE} {apos : Pos} (ha : BD B X a fa) (hbase : attributeBase a "bit_length" X.env (eval a X.env) = eval a X.env := by rfl) (hline : (apos.endLine == pos.line) = true := by rfl) : ED B X (.Call (.Attribute a "bit_length" apos) [] [] pos) (gUn bitsD fa) :=
  ⟨pe_imp (pe_bits ha.run hbase hline) fun s H Q ⟨σ, F, Qd, R, q, kf⟩ => ⟨σ, F, _, R, q, fun x qx F1 H1 v g1 d1 r1 => by
    unfold bitsD at qx
    split at qx
    · have e := r1.int
      subst e
      exact ⟨_, rfl, kf _ qx F1 H1 _ g1 d1 (.int _)⟩
    · exact qx.elim⟩⟩
end
/-! ### C(k = v, ..), by name alone -/
section
variable {B : Bs} {X : Cx} {k n m : Nat} {ps ks : List Str} {dfl : List D} {sp : DSp} {R : Er → Prop} {E : XK} {x qual : Str} {st : Stmt} {p pos : Pos} {kws : List Keyword} {fk : GA} {pm : List Nat}
theorem ed_make0 (O : OkM X.prog X.w X.K X.mg X.base B.W.T x qual st k ps dfl sp) (hk : ks.length = m) (b : BindsM qual st ps 0 dfl.length ks pm) (hr : Room (k + 1) X.A) (hx : Passes (L2.CX X.prog X.w) X E) (hE : FinE B.W X.kn B.F B.H R E) (hkw : KD B X kws fk) (hg : Gl X x := by rfl)
    (hall : (backToKw pos (keywordEach kws X.env)).all (·.1.isSome) = true := by rfl) (hks : (backToKw pos (keywordEach kws X.env)).filterMap (·.1) = ks := by rfl)
    (hdb : (x == ("__debug__" : Str)) = false := by decide)
    (hpl : ((backTo pos (starEach [] X.env)).any (·.1) || (backToKw pos (keywordEach kws X.env)).any (·.1.isNone)) = false := by rfl) : ED B X (.Call (.Name x p) [] kws pos) (gMake sp dfl 0 m pm B.W.p R gNil fk) := by
  obtain ⟨C, f, fd, dvs, hm, M, F, hd, hD, G⟩ := O.ex
  have el : dvs.length = dfl.length := (hD B.F).length
  rw [← el] at b
  obtain ⟨its, kb⟩ := kbn_of F hd b
  refine ⟨pe_imp (pe_makeK0 M G hr hg hm kb hx hkw.run hall hks hdb hpl) fun s H Q ⟨σ, F, Qd, Rl, q, kf⟩ => ?_⟩
  obtain ⟨σ', F', Qd', R', q', k'⟩ := la_make hE hD hk Rl q kf
  exact k' [] q' F' H [] (Grow.refl R'.ex) R'.deck .nil
end
end ND

/-! ND48: the rests of corners, told by keys and side -/
namespace ND
open PySem PySem.Spec L2
theorem psg_scale {k : Int} (hk : 1 ≤ k) (a b : Int) : psg (k * a) (k * b) = psg a b := by
  have e1 : 2 * (k * a) + k * b = k * (2 * a + b) := by rw [Int.mul_add, Int.mul_left_comm]
  unfold psg
  rw [e1]
  generalize 2 * a + b = x
  have p0 : ∀ z : Int, (0 ≤ k * z) ↔ 0 ≤ z := fun z => ⟨fun h => by
    by_cases h1 : z < 0
    · have := Int.mul_neg_of_pos_of_neg (show 0 < k by omega) h1
      omega
    · omega, fun h => Int.mul_nonneg (by omega) h⟩
  have p1 : ∀ z : Int, (0 < k * z) ↔ 0 < z := fun z => ⟨fun h => by
    by_cases h1 : 0 < z
    · exact h1
    · have := Int.mul_nonpos_of_nonneg_of_nonpos (show 0 ≤ k by omega) (show z ≤ 0 by omega)
      omega, fun h => Int.mul_pos (by omega) h⟩
  have p2 : ∀ z : Int, (k * z ≤ 0) ↔ z ≤ 0 := fun z => by
    have := p1 z
    omega
  have p3 : (5 * (k * b) * (k * b) < k * x * (k * x)) ↔ 5 * b * b < x * x := by
    have e2 : k * x * (k * x) - 5 * (k * b) * (k * b) = k * (k * (x * x - 5 * b * b)) := by grind
    have h1 := p1 (k * (x * x - 5 * b * b))
    have h2 := p1 (x * x - 5 * b * b)
    generalize 5 * (k * b) * (k * b) = y1 at *
    generalize k * x * (k * x) = y2 at *
    generalize x * x = y3 at *
    generalize 5 * b * b = y4 at *
    omega
  simp only [p0, p1, p2, p3]
def shA (f : Int → Int) (r : Int) : Int := f ((r - 1) % 5) + f ((r + 1) % 5) + f (r % 5)
def shB (f : Int → Int) (r : Int) : Int := -f (r % 5)
/-- the rest of a corner at r, less x + y g, told by its sign; ties by the side -/
def rpA (a : Int → Int) (d : Int) (f : Int → Int) (r x : Int) : Int := shA f r * d - a (r % 5) - x * d
def rpB (b : Int → Int) (d : Int) (f : Int → Int) (r y : Int) : Int := shB f r * d - b (r % 5) - y * d
def rsg (a b : Int → Int) (d : Int) (s : List Int) (f : Int → Int) (r x y : Int) : Int :=
  if psg (rpA a d f r x) (rpB b d f r y) ≠ 0 then psg (rpA a d f r x) (rpB b d f r y) else -at0 s (r % 5)
theorem rest_psg {a b : Int → Int} {d u v w r x y : Int} {f : Int → Int} (hd : 1 ≤ d) (hw : 1 ≤ w) (e1 : u * d = a (r % 5) * w) (e2 : v * d = b (r % 5) * w) : psg (shA f r * w - u - x * w) (shB f r * w - v - y * w) = psg (rpA a d f r x) (rpB b d f r y) := by
  rw [← psg_scale hd, ← psg_scale hw (rpA a d f r x)]
  unfold rpA rpB
  congr 1
  · have := e1
    grind
  · have := e2
    grind
theorem nine_of {r : Int} (r0 : 0 ≤ r) (r8 : r ≤ 8) : r = 0 ∨ r = 1 ∨ r = 2 ∨ r = 3 ∨ r = 4 ∨ r = 5 ∨ r = 6 ∨ r = 7 ∨ r = 8 := by omega
theorem mod5_in (r : Int) : 0 ≤ r % 5 ∧ r % 5 ≤ 4 := by omega
theorem sh_sz {n : Nat} {f : Int → Int} (h : Szf n f) (r : Int) : Sz (n + 2) (shA f r) ∧ Sz n (shB f r) := by
  have m := fun z => mod5_in z
  refine ⟨((h _ (m _).1 (m _).2).add (h _ (m _).1 (m _).2)).add ((h _ (m _).1 (m _).2).mono (by omega)), ?_⟩
  exact (h _ (m _).1 (m _).2).neg
/-- the bounds of the levels: whether rests lie above, and a + b g -/
def wAb : List Bool := [false, false, true, false, true]
def wBd : List (Int × Int) := [(0, 0), (1, 0), (1, -1), (2, 0), (2, -1)]
def wAbv (l : Int) : Bool := wAb.getD l.toNat false
def wBnd (l : Int) : Int × Int := wBd.getD l.toNat (0, 0)
def withB (a b : Int → Int) (d : Int) (s : List Int) (f : Int → Int) (r : Int) : Bool := decide (0 < rsg a b d s f r (wBnd (sum5 f)).1 (wBnd (sum5 f)).2) == wAbv (sum5 f)
def hasB (a b : Int → Int) (d : Int) (s : List Int) (f : Int → Int) : Bool := decide (1 ≤ sum5 f ∧ sum5 f ≤ 4) && dirs5.all (withB a b d s f)
end ND
namespace K62
open PySem PySem.Spec L2 ND
open PyProof.Rows (envOfC)
def top (i : Nat) : Stmt := PySem.Challenge.pw_nevertwice_k62_sides_beside_and_turns.main.body.getD i (.Pass ⟨0, 0, 0, 0⟩)
def methS (i j : Nat) : Stmt := match top i with
  | .ClassDef _ _ _ b _ _ _ _ _ _ _ => b.getD j (.Pass ⟨0, 0, 0, 0⟩)
  | s => s
def knownO (n : Str) : Bool := n == "Floor"
def fldO (n f : Str) : Bool := (n == "Floor" && f == "all_keys") || (n == "Floor" && f == "side")
@[simp] theorem knownO_Floor : knownO "Floor" = true := by decide +kernel
@[simp] theorem fldO_Floor_all_keys : fldO "Floor" "all_keys" = true := by decide +kernel
@[simp] theorem fldO_Floor_side : fldO "Floor" "side" = true := by decide +kernel
@[simp] theorem fn_Floor_all_keys_all_keys : ((Str.ofString "all_keys") == (Str.ofString "all_keys")) = true := by decide +kernel
@[simp] theorem fn_Floor_all_keys_side : ((Str.ofString "all_keys") == (Str.ofString "side")) = false := by decide +kernel
@[simp] theorem fn_Floor_side_all_keys : ((Str.ofString "side") == (Str.ofString "all_keys")) = false := by decide +kernel
@[simp] theorem fn_Floor_side_side : ((Str.ofString "side") == (Str.ofString "side")) = true := by decide +kernel
theorem sc_is_integer : FnScope ["thing"] ["thing"] (defScope (top 10)) := ⟨rfl, rfl, rfl, by decide +kernel, rfl, by decide +kernel, by decide +kernel⟩
theorem bp_is_integer : BindsP "is_integer" (top 10) ["thing"] := fun _ _ _ _ _ _ us hl => match us, hl with | [_], _ => rfl
theorem sc_is_number : FnScope ["thing"] ["thing"] (defScope (top 11)) := ⟨rfl, rfl, rfl, by decide +kernel, rfl, by decide +kernel, by decide +kernel⟩
theorem bp_is_number : BindsP "is_number" (top 11) ["thing"] := fun _ _ _ _ _ _ us hl => match us, hl with | [_], _ => rfl
theorem sc_normal : FnScope ["a", "b", "d", "divisor"] ["a", "b", "d"] (defScope (top 12)) := ⟨rfl, rfl, rfl, by decide +kernel, rfl, by decide +kernel, by decide +kernel⟩
theorem bp_normal : BindsP "normal" (top 12) ["a", "b", "d"] := fun _ _ _ _ _ _ us hl => match us, hl with | [_, _, _], _ => rfl
theorem sc_negative : FnScope ["one"] ["one"] (defScope (top 13)) := ⟨rfl, rfl, rfl, by decide +kernel, rfl, by decide +kernel, by decide +kernel⟩
theorem bp_negative : BindsP "negative" (top 13) ["one"] := fun _ _ _ _ _ _ us hl => match us, hl with | [_], _ => rfl
theorem sc_added : FnScope ["one", "other", "d"] ["one", "other"] (defScope (top 14)) := ⟨rfl, rfl, rfl, by decide +kernel, rfl, by decide +kernel, by decide +kernel⟩
theorem bp_added : BindsP "added" (top 14) ["one", "other"] := fun _ _ _ _ _ _ us hl => match us, hl with | [_, _], _ => rfl
theorem sc_taken : FnScope ["one", "other"] ["one", "other"] (defScope (top 15)) := ⟨rfl, rfl, rfl, by decide +kernel, rfl, by decide +kernel, by decide +kernel⟩
theorem bp_taken : BindsP "taken" (top 15) ["one", "other"] := fun _ _ _ _ _ _ us hl => match us, hl with | [_, _], _ => rfl
theorem sc_times_g : FnScope ["one"] ["one"] (defScope (top 16)) := ⟨rfl, rfl, rfl, by decide +kernel, rfl, by decide +kernel, by decide +kernel⟩
theorem bp_times_g : BindsP "times_g" (top 16) ["one"] := fun _ _ _ _ _ _ us hl => match us, hl with | [_], _ => rfl
theorem sc_is_whole_number : FnScope ["one"] ["one"] (defScope (top 17)) := ⟨rfl, rfl, rfl, by decide +kernel, rfl, by decide +kernel, by decide +kernel⟩
theorem bp_is_whole_number : BindsP "is_whole_number" (top 17) ["one"] := fun _ _ _ _ _ _ us hl => match us, hl with | [_], _ => rfl
theorem sc_is_direction : FnScope ["thing"] ["thing"] (defScope (top 19)) := ⟨rfl, rfl, rfl, by decide +kernel, rfl, by decide +kernel, by decide +kernel⟩
theorem bp_is_direction : BindsP "is_direction" (top 19) ["thing"] := fun _ _ _ _ _ _ us hl => match us, hl with | [_], _ => rfl
theorem sc_keys_from : FnScope ["one", "other", "found", "r"] ["one", "other"] (defScope (top 31)) := ⟨rfl, rfl, rfl, by decide +kernel, rfl, by decide +kernel, by decide +kernel⟩
theorem bp_keys_from : BindsP "keys_from" (top 31) ["one", "other"] := fun _ _ _ _ _ _ us hl => match us, hl with | [_, _], _ => rfl
theorem sc_whole_directions : FnScope ["keys", "r"] ["keys"] (defScope (top 32)) := ⟨rfl, rfl, rfl, by decide +kernel, rfl, by decide +kernel, by decide +kernel⟩
theorem bp_whole_directions : BindsP "whole_directions" (top 32) ["keys"] := fun _ _ _ _ _ _ us hl => match us, hl with | [_], _ => rfl
theorem sc_sides_of : FnScope ["keys", "directions", "found", "turns", "r", "one", "j", "part"] ["keys"] (defScope (top 33)) := ⟨rfl, rfl, rfl, by decide +kernel, rfl, by decide +kernel, by decide +kernel⟩
theorem bp_sides_of : BindsP "sides_of" (top 33) ["keys"] := fun _ _ _ _ _ _ us hl => match us, hl with | [_], _ => rfl
theorem sc_is_side : FnScope ["keys", "thing", "part"] ["keys", "thing"] (defScope (top 34)) := ⟨rfl, rfl, rfl, by decide +kernel, rfl, by decide +kernel, by decide +kernel⟩
theorem bp_is_side : BindsP "is_side" (top 34) ["keys", "thing"] := fun _ _ _ _ _ _ us hl => match us, hl with | [_, _], _ => rfl
theorem sc_Floor : FnScope ["self", "one", "other", "side", "number", "keys"] ["self", "one", "other", "side"] (defScope (methS 35 0)) := ⟨rfl, rfl, rfl, by decide +kernel, rfl, by decide +kernel, by decide +kernel⟩
-- INIT Floor
theorem sc_Floor__eq : FnScope ["self", "other"] ["self", "other"] (defScope (methS 35 1)) := ⟨rfl, rfl, rfl, by decide +kernel, rfl, by decide +kernel, by decide +kernel⟩
-- EQ Floor__eq
theorem sc_whole_keys : FnScope ["floor"] ["floor"] (defScope (top 38)) := ⟨rfl, rfl, rfl, by decide +kernel, rfl, by decide +kernel, by decide +kernel⟩
theorem bp_whole_keys : BindsP "whole_keys" (top 38) ["floor"] := fun _ _ _ _ _ _ us hl => match us, hl with | [_], _ => rfl
theorem sc_changed_side : FnScope ["side", "direction", "j", "sign"] ["side", "direction"] (defScope (top 40)) := ⟨rfl, rfl, rfl, by decide +kernel, rfl, by decide +kernel, by decide +kernel⟩
theorem bp_changed_side : BindsP "changed_side" (top 40) ["side", "direction"] := fun _ _ _ _ _ _ us hl => match us, hl with | [_, _], _ => rfl
theorem sc_with_keys : FnScope ["floor", "side"] ["floor", "side"] (defScope (top 41)) := ⟨rfl, rfl, rfl, by decide +kernel, rfl, by decide +kernel, by decide +kernel⟩
theorem bp_with_keys : BindsP "with_keys" (top 41) ["floor", "side"] := fun _ _ _ _ _ _ us hl => match us, hl with | [_, _], _ => rfl
theorem sc_worm_directions : FnScope ["floor", "every", "r"] ["floor"] (defScope (top 42)) := ⟨rfl, rfl, rfl, by decide +kernel, rfl, by decide +kernel, by decide +kernel⟩
theorem bp_worm_directions : BindsP "worm_directions" (top 42) ["floor"] := fun _ _ _ _ _ _ us hl => match us, hl with | [_], _ => rfl
theorem sc_sides_beside : FnScope ["floor", "r"] ["floor"] (defScope (top 43)) := ⟨rfl, rfl, rfl, by decide +kernel, rfl, by decide +kernel, by decide +kernel⟩
theorem bp_sides_beside : BindsP "sides_beside" (top 43) ["floor"] := fun _ _ _ _ _ _ us hl => match us, hl with | [_], _ => rfl
theorem sc_turned : FnScope ["floor", "direction"] ["floor", "direction"] (defScope (top 44)) := ⟨rfl, rfl, rfl, by decide +kernel, rfl, by decide +kernel, by decide +kernel⟩
theorem bp_turned : BindsP "turned" (top 44) ["floor", "direction"] := fun _ _ _ _ _ _ us hl => match us, hl with | [_, _], _ => rfl
theorem sc_with_side : FnScope ["floor", "side"] ["floor", "side"] (defScope (top 45)) := ⟨rfl, rfl, rfl, by decide +kernel, rfl, by decide +kernel, by decide +kernel⟩
theorem bp_with_side : BindsP "with_side" (top 45) ["floor", "side"] := fun _ _ _ _ _ _ us hl => match us, hl with | [_, _], _ => rfl
theorem sc_unlike_signs : FnScope ["one", "other", "j"] ["one", "other"] (defScope (top 46)) := ⟨rfl, rfl, rfl, by decide +kernel, rfl, by decide +kernel, by decide +kernel⟩
theorem bp_unlike_signs : BindsP "unlike_signs" (top 46) ["one", "other"] := fun _ _ _ _ _ _ us hl => match us, hl with | [_, _], _ => rfl
theorem sc_turns_between : FnScope ["one", "other", "found", "floor", "direction", "r"] ["one", "other"] (defScope (top 47)) := ⟨rfl, rfl, rfl, by decide +kernel, rfl, by decide +kernel, by decide +kernel⟩
theorem bp_turns_between : BindsP "turns_between" (top 47) ["one", "other"] := fun _ _ _ _ _ _ us hl => match us, hl with | [_, _], _ => rfl
theorem sc_turns_hold : FnScope ["one", "other", "thing", "floor", "direction", "r"] ["one", "other", "thing"] (defScope (top 48)) := ⟨rfl, rfl, rfl, by decide +kernel, rfl, by decide +kernel, by decide +kernel⟩
theorem bp_turns_hold : BindsP "turns_hold" (top 48) ["one", "other", "thing"] := fun _ _ _ _ _ _ us hl => match us, hl with | [_, _, _], _ => rfl
theorem sc__law_deck : FnScope ["_law_script", "_law_mixed", "_law_cell"] ["_law_script"] (defScope (top 50)) := ⟨rfl, rfl, rfl, by decide +kernel, rfl, by decide +kernel, by decide +kernel⟩
theorem bp__law_deck : BindsP "_law_deck" (top 50) ["_law_script"] := fun _ _ _ _ _ _ us hl => match us, hl with | [_], _ => rfl
theorem sc__law_draw : FnScope ["_law_deck_here", "_law_many", "_law_figure", "_law_cell"] ["_law_deck_here", "_law_many"] (defScope (top 51)) := ⟨rfl, rfl, rfl, by decide +kernel, rfl, by decide +kernel, by decide +kernel⟩
theorem bp__law_draw : BindsP "_law_draw" (top 51) ["_law_deck_here", "_law_many"] := fun _ _ _ _ _ _ us hl => match us, hl with | [_, _], _ => rfl
theorem sc__law_pick : FnScope ["_law_deck_here", "_law_some"] ["_law_deck_here", "_law_some"] (defScope (top 52)) := ⟨rfl, rfl, rfl, by decide +kernel, rfl, by decide +kernel, by decide +kernel⟩
theorem bp__law_pick : BindsP "_law_pick" (top 52) ["_law_deck_here", "_law_some"] := fun _ _ _ _ _ _ us hl => match us, hl with | [_, _], _ => rfl
theorem sc__law_number : FnScope ["_law_deck_here", "_law_way", "_law_found", "_law_sign", "_law_turn"] ["_law_deck_here"] (defScope (top 53)) := ⟨rfl, rfl, rfl, by decide +kernel, rfl, by decide +kernel, by decide +kernel⟩
theorem bp__law_number : BindsP "_law_number" (top 53) ["_law_deck_here"] := fun _ _ _ _ _ _ us hl => match us, hl with | [_], _ => rfl
theorem sc__law_keys : FnScope ["_law_r", "_law_one", "_law_other", "_law_keys_here", "_law_turn", "_law_near", "_law_far"] ["_law_r", "_law_one", "_law_other"] (defScope (top 54)) := ⟨rfl, rfl, rfl, by decide +kernel, rfl, by decide +kernel, by decide +kernel⟩
theorem bp__law_keys : BindsP "_law_keys" (top 54) ["_law_r", "_law_one", "_law_other"] := fun _ _ _ _ _ _ us hl => match us, hl with | [_, _, _], _ => rfl
theorem sc__law_whole : FnScope ["_law_d", "_law_keys_here", "_law_r"] ["_law_d", "_law_keys_here"] (defScope (top 55)) := ⟨rfl, rfl, rfl, by decide +kernel, rfl, by decide +kernel, by decide +kernel⟩
theorem bp__law_whole : BindsP "_law_whole" (top 55) ["_law_d", "_law_keys_here"] := fun _ _ _ _ _ _ us hl => match us, hl with | [_, _], _ => rfl
theorem sc__law_sides : FnScope ["_law_d", "_law_keys_here", "_law_whole_here", "_law_row", "_law_found", "_law_turn", "_law_side", "_law_r", "_law_it"] ["_law_d", "_law_keys_here"] (defScope (top 56)) := ⟨rfl, rfl, rfl, by decide +kernel, rfl, by decide +kernel, by decide +kernel⟩
theorem bp__law_sides : BindsP "_law_sides" (top 56) ["_law_d", "_law_keys_here"] := fun _ _ _ _ _ _ us hl => match us, hl with | [_, _], _ => rfl
theorem sc__law_world : FnScope ["_law_deck_here", "_law_edge", "_law_d", "_law_r", "_law_one", "_law_other", "_law_keys_here"] ["_law_deck_here", "_law_edge"] (defScope (top 57)) := ⟨rfl, rfl, rfl, by decide +kernel, rfl, by decide +kernel, by decide +kernel⟩
theorem bp__law_world : BindsP "_law_world" (top 57) ["_law_deck_here", "_law_edge"] := fun _ _ _ _ _ _ us hl => match us, hl with | [_, _], _ => rfl
theorem sc__law_floor : FnScope ["_law_deck_here", "_law_world_here", "_law_d", "_law_keys_here", "_law_side", "_law_by", "_law_one", "_law_other"] ["_law_deck_here", "_law_world_here"] (defScope (top 58)) := ⟨rfl, rfl, rfl, by decide +kernel, rfl, by decide +kernel, by decide +kernel⟩
theorem bp__law_floor : BindsP "_law_floor" (top 58) ["_law_deck_here", "_law_world_here"] := fun _ _ _ _ _ _ us hl => match us, hl with | [_, _], _ => rfl
theorem sc__law_same : FnScope ["_law_told", "_law_due"] ["_law_told", "_law_due"] (defScope (top 59)) := ⟨rfl, rfl, rfl, by decide +kernel, rfl, by decide +kernel, by decide +kernel⟩
theorem bp__law_same : BindsP "_law_same" (top 59) ["_law_told", "_law_due"] := fun _ _ _ _ _ _ us hl => match us, hl with | [_, _], _ => rfl
theorem sc__law_changed : FnScope ["_law_side", "_law_r", "_law_at", "_law_it"] ["_law_side", "_law_r"] (defScope (top 60)) := ⟨rfl, rfl, rfl, by decide +kernel, rfl, by decide +kernel, by decide +kernel⟩
theorem bp__law_changed : BindsP "_law_changed" (top 60) ["_law_side", "_law_r"] := fun _ _ _ _ _ _ us hl => match us, hl with | [_, _], _ => rfl
theorem sc__law_worms : FnScope ["_law_world_here", "_law_d", "_law_keys_here", "_law_side", "_law_sides_here", "_law_r"] ["_law_world_here"] (defScope (top 61)) := ⟨rfl, rfl, rfl, by decide +kernel, rfl, by decide +kernel, by decide +kernel⟩
theorem bp__law_worms : BindsP "_law_worms" (top 61) ["_law_world_here"] := fun _ _ _ _ _ _ us hl => match us, hl with | [_], _ => rfl
theorem sc__law_regular : FnScope ["_law_deck_here", "_law_d", "_law_r", "_law_one", "_law_other"] ["_law_deck_here"] (defScope (top 62)) := ⟨rfl, rfl, rfl, by decide +kernel, rfl, by decide +kernel, by decide +kernel⟩
theorem bp__law_regular : BindsP "_law_regular" (top 62) ["_law_deck_here"] := fun _ _ _ _ _ _ us hl => match us, hl with | [_], _ => rfl
theorem sc__law_moved : FnScope ["_law_world_here", "_law_step", "_law_d", "_law_keys_here", "_law_side", "_law_more", "_law_r", "_law_a", "_law_b", "_law_x", "_law_y"] ["_law_world_here", "_law_step"] (defScope (top 63)) := ⟨rfl, rfl, rfl, by decide +kernel, rfl, by decide +kernel, by decide +kernel⟩
theorem bp__law_moved : BindsP "_law_moved" (top 63) ["_law_world_here", "_law_step"] := fun _ _ _ _ _ _ us hl => match us, hl with | [_, _], _ => rfl
theorem sc__law_turned : FnScope ["_law_floor_here", "_law_r", "e"] ["_law_floor_here", "_law_r"] (defScope (top 64)) := ⟨rfl, rfl, rfl, by decide +kernel, rfl, by decide +kernel, by decide +kernel⟩
theorem bp__law_turned : BindsP "_law_turned" (top 64) ["_law_floor_here", "_law_r"] := fun _ _ _ _ _ _ us hl => match us, hl with | [_, _], _ => rfl
theorem sc__law_sided : FnScope ["_law_floor_here", "_law_side", "e"] ["_law_floor_here", "_law_side"] (defScope (top 65)) := ⟨rfl, rfl, rfl, by decide +kernel, rfl, by decide +kernel, by decide +kernel⟩
theorem bp__law_sided : BindsP "_law_sided" (top 65) ["_law_floor_here", "_law_side"] := fun _ _ _ _ _ _ us hl => match us, hl with | [_, _], _ => rfl
theorem sc__law_turns : FnScope ["_law_sides_here", "_law_one", "_law_other", "_law_found", "_law_turn", "_law_more", "_law_turns_here", "_law_side", "_law_r"] ["_law_sides_here", "_law_one", "_law_other"] (defScope (top 66)) := ⟨rfl, rfl, rfl, by decide +kernel, rfl, by decide +kernel, by decide +kernel⟩
theorem bp__law_turns : BindsP "_law_turns" (top 66) ["_law_sides_here", "_law_one", "_law_other"] := fun _ _ _ _ _ _ us hl => match us, hl with | [_, _, _], _ => rfl
theorem sc__law_are_turns_right : FnScope ["_law_deck_here", "_law_sides_here", "_law_floors", "_law_one", "_law_other", "_law_near", "_law_far", "_law_rights", "_law_told", "_law_here", "_law_r", "_law_right", "_law_odd", "_law_names", "_law_turn", "_law_thing", "_law_turns_here", "_law_it"] ["_law_deck_here", "_law_sides_here", "_law_floors", "_law_one", "_law_other"] (defScope (top 67)) := ⟨rfl, rfl, rfl, by decide +kernel, rfl, by decide +kernel, by decide +kernel⟩
theorem bp__law_are_turns_right : BindsP "_law_are_turns_right" (top 67) ["_law_deck_here", "_law_sides_here", "_law_floors", "_law_one", "_law_other"] := fun _ _ _ _ _ _ us hl => match us, hl with | [_, _, _, _, _], _ => rfl
theorem sc__law_is_ring : FnScope ["_law_deck_here", "_law_floor_here", "_law_here", "_law_last", "_law_start", "_law_turn", "_law_ways", "_law_r", "_law_side", "_law_it"] ["_law_deck_here", "_law_floor_here"] (defScope (top 68)) := ⟨rfl, rfl, rfl, by decide +kernel, rfl, by decide +kernel, by decide +kernel⟩
theorem bp__law_is_ring : BindsP "_law_is_ring" (top 68) ["_law_deck_here", "_law_floor_here"] := fun _ _ _ _ _ _ us hl => match us, hl with | [_, _], _ => rfl
theorem sc__law_is_floor_right : FnScope ["_law_deck_here", "_law_world_here", "_law_floor_here", "_law_d", "_law_keys_here", "_law_side", "_law_worms_here", "_law_r", "_law_odd", "_law_turn", "_law_due", "_law_thing", "_law_it"] ["_law_deck_here", "_law_world_here", "_law_floor_here"] (defScope (top 69)) := ⟨rfl, rfl, rfl, by decide +kernel, rfl, by decide +kernel, by decide +kernel⟩
theorem bp__law_is_floor_right : BindsP "_law_is_floor_right" (top 69) ["_law_deck_here", "_law_world_here", "_law_floor_here"] := fun _ _ _ _ _ _ us hl => match us, hl with | [_, _, _], _ => rfl
theorem sc_law : FnScope ["_law_script", "_law_deck_here", "_law_world_here", "_law_d", "_law_keys_here", "_law_side", "_law_sides_here", "_law_floor_here", "_law_floors", "_law_at", "_law_it", "_law_turn", "_law_step", "_law_beside"] ["_law_script"] (defScope (top 70)) := ⟨rfl, rfl, rfl, by decide +kernel, rfl, by decide +kernel, by decide +kernel⟩
theorem bp_law : BindsP "law" (top 70) ["_law_script"] := fun _ _ _ _ _ _ us hl => match us, hl with | [_], _ => rfl
theorem kb_with_side_0 : BindsKw "with_side" (top 45) ["floor", "side"] ["side", "floor"] 0 2 [1, 0] := fun _ _ _ _ _ _ us ws h1 h2 => match us, ws, h1, h2 with | [], [_, _], _, _ => rfl
theorem kb_turns_hold_0 : BindsKw "turns_hold" (top 48) ["one", "other", "thing"] ["other", "one", "thing"] 0 3 [1, 0, 2] := fun _ _ _ _ _ _ us ws h1 h2 => match us, ws, h1, h2 with | [], [_, _, _], _, _ => rfl
theorem bm_Floor_0 : BindsM "Floor.__init__" (methS 35 0) ["one", "other", "side"] 3 1 [] [0, 1, 2] := fun _ _ _ _ _ _ _ us its ws h1 h2 h3 => match us, its, ws, h1, h2, h3 with | [_, _, _, _], [_], [], _, _, _ => ⟨_, rfl, rfl⟩
theorem bm_Floor_1 : BindsM "Floor.__init__" (methS 35 0) ["one", "other", "side"] 2 1 [] [0, 1, 2] := fun _ _ _ _ _ _ _ us its ws h1 h2 h3 => match us, its, ws, h1, h2, h3 with | [_, _, _], [_], [], _, _, _ => ⟨_, rfl, rfl⟩
theorem bm_Floor_2 : BindsM "Floor.__init__" (methS 35 0) ["one", "other", "side"] 1 1 ["side", "other"] [0, 3, 2] := fun _ _ _ _ _ _ _ us its ws h1 h2 h3 => match us, its, ws, h1, h2, h3 with | [_, _], [_], [_, _], _, _, _ => ⟨_, rfl, rfl⟩
structure Bt (mg : Str → Option Value) : Prop where
  b_all : mg "all" = none
  b_bool : mg "bool" = none
  b_enumerate : mg "enumerate" = none
  b_int : mg "int" = none
  b_isinstance : mg "isinstance" = none
  b_len : mg "len" = none
  b_list : mg "list" = none
  b_max : mg "max" = none
  b_range : mg "range" = none
  b_repr : mg "repr" = none
  b_sorted : mg "sorted" = none
  b_tuple : mg "tuple" = none
  b_zip : mg "zip" = none
  f_gcd : mg "gcd" = some (.builtin "math.gcd")
def clsML : List (Str × Str × Bool) := [("BadDirection", "BadDirection", true), ("BadDirection", "NoSuchSide", false), ("BadDirection", "NoWorm", false), ("BadNumber", "BadDirection", false), ("BadNumber", "NoSuchSide", false), ("BadNumber", "NoWorm", false), ("BadSide", "BadDirection", false), ("BadSide", "NoSuchSide", false), ("BadSide", "NoWorm", false), ("NoSuchSide", "BadDirection", false), ("NoSuchSide", "NoSuchSide", true), ("NoSuchSide", "NoWorm", false), ("NoWorm", "BadDirection", false), ("NoWorm", "NoSuchSide", false), ("NoWorm", "NoWorm", true)]
def clsM (a b : Str) : Option Bool := look3 clsML a b
@[simp] theorem clsM_BadDirection_BadDirection : clsM "BadDirection" "BadDirection" = some true := by decide +kernel
@[simp] theorem clsM_BadDirection_NoSuchSide : clsM "BadDirection" "NoSuchSide" = some false := by decide +kernel
@[simp] theorem clsM_BadDirection_NoWorm : clsM "BadDirection" "NoWorm" = some false := by decide +kernel
@[simp] theorem clsM_BadNumber_BadDirection : clsM "BadNumber" "BadDirection" = some false := by decide +kernel
@[simp] theorem clsM_BadNumber_NoSuchSide : clsM "BadNumber" "NoSuchSide" = some false := by decide +kernel
@[simp] theorem clsM_BadNumber_NoWorm : clsM "BadNumber" "NoWorm" = some false := by decide +kernel
@[simp] theorem clsM_BadSide_BadDirection : clsM "BadSide" "BadDirection" = some false := by decide +kernel
@[simp] theorem clsM_BadSide_NoSuchSide : clsM "BadSide" "NoSuchSide" = some false := by decide +kernel
@[simp] theorem clsM_BadSide_NoWorm : clsM "BadSide" "NoWorm" = some false := by decide +kernel
@[simp] theorem clsM_NoSuchSide_BadDirection : clsM "NoSuchSide" "BadDirection" = some false := by decide +kernel
@[simp] theorem clsM_NoSuchSide_NoSuchSide : clsM "NoSuchSide" "NoSuchSide" = some true := by decide +kernel
@[simp] theorem clsM_NoSuchSide_NoWorm : clsM "NoSuchSide" "NoWorm" = some false := by decide +kernel
@[simp] theorem clsM_NoWorm_BadDirection : clsM "NoWorm" "BadDirection" = some false := by decide +kernel
@[simp] theorem clsM_NoWorm_NoSuchSide : clsM "NoWorm" "NoSuchSide" = some false := by decide +kernel
@[simp] theorem clsM_NoWorm_NoWorm : clsM "NoWorm" "NoWorm" = some true := by decide +kernel
def knownE_direction (a : Str) : Bool := a == "NoWorm"
def knownE_thing (a : Str) : Bool := a == "BadDirection" || a == "BadNumber" || a == "BadSide" || a == "NoSuchSide"
@[simp] theorem knownE_direction_NoWorm : knownE_direction "NoWorm" = true := by decide +kernel
@[simp] theorem knownE_thing_BadDirection : knownE_thing "BadDirection" = true := by decide +kernel
@[simp] theorem knownE_thing_BadNumber : knownE_thing "BadNumber" = true := by decide +kernel
@[simp] theorem knownE_thing_BadSide : knownE_thing "BadSide" = true := by decide +kernel
@[simp] theorem knownE_thing_NoSuchSide : knownE_thing "NoSuchSide" = true := by decide +kernel
def initS (i : Nat) : Stmt := match top i with
  | .ClassDef _ _ _ b _ _ _ _ _ _ _ => b.getD 0 (.Pass ⟨0, 0, 0, 0⟩)
  | s => s
theorem in_BadDirection {K : PySem.W.Frag} {fI : Addr} {fd : FuncData} (F : Fun K "__init__" "BadDirection.__init__" (initS 5) fI fd) : ErInit K "BadDirection.__init__" "thing" (initS 5) fI := ⟨⟨_, F⟩, ⟨_, _, _, _, rfl⟩, fun _ _ _ _ _ _ _ _ => rfl, fun _ _ => by rfl, fun _ _ _ => rfl, fun _ _ _ => rfl, fun _ _ _ _ _ => by rfl, fun _ _ _ _ _ => by rfl, ⟨rfl, rfl, rfl⟩, by decide +kernel⟩
theorem in_BadNumber {K : PySem.W.Frag} {fI : Addr} {fd : FuncData} (F : Fun K "__init__" "BadNumber.__init__" (initS 3) fI fd) : ErInit K "BadNumber.__init__" "thing" (initS 3) fI := ⟨⟨_, F⟩, ⟨_, _, _, _, rfl⟩, fun _ _ _ _ _ _ _ _ => rfl, fun _ _ => by rfl, fun _ _ _ => rfl, fun _ _ _ => rfl, fun _ _ _ _ _ => by rfl, fun _ _ _ _ _ => by rfl, ⟨rfl, rfl, rfl⟩, by decide +kernel⟩
theorem in_BadSide {K : PySem.W.Frag} {fI : Addr} {fd : FuncData} (F : Fun K "__init__" "BadSide.__init__" (initS 6) fI fd) : ErInit K "BadSide.__init__" "thing" (initS 6) fI := ⟨⟨_, F⟩, ⟨_, _, _, _, rfl⟩, fun _ _ _ _ _ _ _ _ => rfl, fun _ _ => by rfl, fun _ _ _ => rfl, fun _ _ _ => rfl, fun _ _ _ _ _ => by rfl, fun _ _ _ _ _ => by rfl, ⟨rfl, rfl, rfl⟩, by decide +kernel⟩
theorem in_NoSuchSide {K : PySem.W.Frag} {fI : Addr} {fd : FuncData} (F : Fun K "__init__" "NoSuchSide.__init__" (initS 8) fI fd) : ErInit K "NoSuchSide.__init__" "thing" (initS 8) fI := ⟨⟨_, F⟩, ⟨_, _, _, _, rfl⟩, fun _ _ _ _ _ _ _ _ => rfl, fun _ _ => by rfl, fun _ _ _ => rfl, fun _ _ _ => rfl, fun _ _ _ _ _ => by rfl, fun _ _ _ _ _ => by rfl, ⟨rfl, rfl, rfl⟩, by decide +kernel⟩
theorem in_NoWorm {K : PySem.W.Frag} {fI : Addr} {fd : FuncData} (F : Fun K "__init__" "NoWorm.__init__" (initS 7) fI fd) : ErInit K "NoWorm.__init__" "direction" (initS 7) fI := ⟨⟨_, F⟩, ⟨_, _, _, _, rfl⟩, fun _ _ _ _ _ _ _ _ => rfl, fun _ _ => by rfl, fun _ _ _ => rfl, fun _ _ _ => rfl, fun _ _ _ _ _ => by rfl, fun _ _ _ _ _ => by rfl, ⟨rfl, rfl, rfl⟩, by decide +kernel⟩
structure Ct (K : PySem.W.Frag) (mg : Str → Option Value) : Prop where
  er_BadDirection : ∃ C fI, ErC K mg "BadDirection" "thing" C fI ∧ ErInit K "BadDirection.__init__" "thing" (initS 5) fI
  er_BadNumber : ∃ C fI, ErC K mg "BadNumber" "thing" C fI ∧ ErInit K "BadNumber.__init__" "thing" (initS 3) fI
  er_BadSide : ∃ C fI, ErC K mg "BadSide" "thing" C fI ∧ ErInit K "BadSide.__init__" "thing" (initS 6) fI
  er_NoSuchSide : ∃ C fI, ErC K mg "NoSuchSide" "thing" C fI ∧ ErInit K "NoSuchSide.__init__" "thing" (initS 8) fI
  er_NoWorm : ∃ C fI, ErC K mg "NoWorm" "direction" C fI ∧ ErInit K "NoWorm.__init__" "direction" (initS 7) fI
  g_BadDirection : ∃ C, mg "BadDirection" = some (.ref C)
  g_NoSuchSide : ∃ C, mg "NoSuchSide" = some (.ref C)
  g_NoWorm : ∃ C, mg "NoWorm" = some (.ref C)
  tab : ClsTab ⟨K, mg⟩ clsM
  get_direction : GetTab ⟨K, mg⟩ knownE_direction "direction"
  get_thing : GetTab ⟨K, mg⟩ knownE_thing "thing"
  dig : Dig K
  ob : ObTab ⟨K, mg⟩ knownO
  fld : FldTab ⟨K, mg⟩ fldO
  gl_FIRST_SIDE : GlobC ⟨K, mg⟩ "FIRST_SIDE" (.tup [.int 1, .int (-1), .int 1, .int 1, .int (-1)])
  gl_NO_SIDE : GlobC ⟨K, mg⟩ "NO_SIDE" (.tup [.int 0, .int 0, .int 0, .int 0, .int 0])
abbrev sp__law_draw := spDraw
theorem fld_k {k : D} {s : List Int} {Q : D → Prop} (q : Q k) : fldD fldO "all_keys" (flo k s) Q := ⟨_, _, _, rfl, fldO_Floor_all_keys, by simp [List.lookup], q⟩
theorem fld_s {k : D} {s : List Int} {Q : D → Prop} (q : Q (tD s)) : fldD fldO "side" (flo k s) Q := ⟨_, _, _, rfl, fldO_Floor_side, by simp [List.lookup], q⟩
abbrev TyK (x : D) : Prop := tyX knownO x = true
abbrev TyK1 (x : D) : Prop := Ty1 knownO x
theorem tyk_rp {n : Nat} {x : D} (h : rp n x = true) : TyK x := tyX_ty (rp_ty h)
theorem tyk1_rp {x : D} (h : rp 64 x = true) : TyK1 x := ⟨tyk_rp h, fun xs e y m => by
  subst e
  simp only [rp, rps_all, List.all_eq_true] at h
  exact tyk_rp (h y m)⟩
theorem tyk1_tri (a b c : Int) : TyK1 (tri a b c) := ⟨rfl, fun xs e y m => by
  cases e
  simp only [List.mem_cons, List.not_mem_nil, or_false] at m
  rcases m with rfl | rfl | rfl <;> rfl⟩
def sp_is_integer : DSp := fun _ ds Q _ => ∃ x, ds = [x] ∧ TyK x ∧ Q (.bl (isI x))
theorem isi_hs {W : WD} (x : D) (Qd : D → Prop) (h : TyK x) (q : Qd (.bl (isI x))) : sp_is_integer W [x] Qd fun _ => False := ⟨x, rfl, h, q⟩
def sp_normal : DSp := fun _ ds Q _ => ∃ a b d, ds = [.int a, .int b, .int d] ∧ Sz 8900 d ∧ d ≠ 0 ∧ Q (red a b d)
def sp_negative : DSp := fun _ ds Q _ => ∃ a b m, ds = [tri a b m] ∧ Q (tri (-a) (-b) m)
def sp_times_g : DSp := fun _ ds Q _ => ∃ a b m, ds = [tri a b m] ∧ Q (tri b (a + b) m)
def sp_is_whole_number : DSp := fun _ ds Q _ => ∃ a b m, ds = [tri a b m] ∧ 1 ≤ m ∧ Q (.bl (wholeB a b m))
def sp_Floor__eq : DSp := fun _ ds Q _ => ∃ ks s k' s', ds = [flo (.tup ks) s, flo k' s'] ∧ pl 64 (.tup ks) = true ∧ pl 64 k' = true ∧ Q (.bl (if eqb (.tup ks) k' = true then decide (s = s') else false))
def sp_is_number : DSp := fun _ ds Q _ => ∃ x, ds = [x] ∧ TyK1 x ∧ Q (.bl (isNum x))
def sp_added : DSp := fun _ ds Q _ => ∃ n m a b d c e f, ds = [tri a b d, tri c e f] ∧ Num n a b d ∧ Num m c e f ∧ n + m ≤ 400000 ∧ Sz 4400 d ∧ Sz 4400 f ∧ Q (red (a * f + c * d) (b * f + e * d) (d * f))
def sp_is_direction : DSp := fun _ ds Q _ => ∃ x, ds = [x] ∧ TyK x ∧ Q (.bl (isDir x))
def sp_whole_directions : DSp := fun _ ds Q _ => ∃ a b d, ds = [keyD a b d] ∧ KA 4000 a b d ∧ Q (.tup ((whL a b d).map .int))
def sp__law_pick : DSp := fun W ds Q _ => ∃ d l xs, W = some (d, l) ∧ (ds = [dkD d, .lst xs] ∨ ds = [dkD d, .tup xs]) ∧ 0 < xs.length ∧ xs.length < 2 ^ 62 ∧ ∀ x ∈ xs, Q x
def sp_taken : DSp := fun _ ds Q _ => ∃ n m a b d c e f, ds = [tri a b d, tri c e f] ∧ Num n a b d ∧ Num m c e f ∧ n + m ≤ 400000 ∧ Sz 4400 d ∧ Sz 4400 f ∧ Q (red (a * f + -c * d) (b * f + -e * d) (d * f))
def sp_sides_of : DSp := fun _ ds Q _ => ∃ a b d, ds = [keyD a b d] ∧ KA 4000 a b d ∧ Q (.tup ((sidesL (whL a b d)).map tD))
def sp_whole_keys : DSp := fun _ ds Q _ => ∃ s a b d, ds = [flo (keyD a b d) s] ∧ KA 4000 a b d ∧ Q (.tup ((whL a b d).map .int))
def sp_keys_from : DSp := fun _ ds Q _ => ∃ x y a b d, ds = [x, y] ∧ KA 4000 a b d ∧ Fr 4000 x (a 0) (b 0) d ∧ Fr 4000 y (a 1) (b 1) d ∧ Q (keyD a b d)
def sp_is_side : DSp := fun _ ds Q _ => ∃ x a b d, ds = [keyD a b d, x] ∧ KA 4000 a b d ∧ TyK1 x ∧ Q (.bl (isSide (whL a b d) x))
def sp_Floor : DSp := fun _ ds Q _ => ∃ x y s a b d, ds = [x, y, tD s] ∧ KA 4000 a b d ∧ Fr 4000 x (a 0) (b 0) d ∧ Fr 4000 y (a 1) (b 1) d ∧ s ∈ sidesL (whL a b d) ∧ Q (flo (keyD a b d) s)
/-! k62: sides beside one another, turns -/
def FlD (x : D) (a b : Int → Int) (d : Int) (s : List Int) : Prop := x = flo (keyD a b d) s ∧ KA 4000 a b d ∧ s ∈ sidesL (whL a b d)
/-- the turns that turns_between tells -/
def nxtT (wl s t : List Int) : Option Int := ((worms wl s).filter fun r => decide (r ∈ unl s t)).head?
def turnsB (wl : List Int) : Nat → List Int → List Int → List Int
  | 0, _, _ => []
  | n + 1, s, t => if s = t then [] else match nxtT wl s t with
    | some r => r :: turnsB wl n (chg s r) t
    | none => []
/-- turned step by step -/
def walkB (wl t : List Int) : List Int → List Int → Bool
  | s, [] => decide (s = t)
  | s, r :: rs => if r ∈ worms wl s then walkB wl t (chg s r) rs else false
def holdB (wl s t : List Int) : D → Bool
  | .tup xs => xs.all isDir && (decide (xs.length = (unl s t).length) && walkB wl t s (xs.map nOf))
  | _ => false
def stepT (wl t : List Int) (p : List Int × List Int) : List (List Int × List Int) := (dirs5.filter fun r => decide (at0 p.2 r ≠ at0 t r) && decide (chg p.2 r ∈ sidesL wl)).map fun r => (p.1 ++ [r], chg p.2 r)
def bfsT (wl t : List Int) : Nat → List (List Int × List Int) → List (List Int × List Int)
  | 0, L => L
  | n + 1, L => bfsT wl t n (L.flatMap (stepT wl t))
def rightsT (wl s t : List Int) : List (List Int) := (bfsT wl t (unl s t).length [([], s)]).map Prod.fst
def sp_changed_side : DSp := fun _ ds Q _ => ∃ s r, ds = [tD s, .int r] ∧ s.length = 5 ∧ 0 ≤ r ∧ r ≤ 4 ∧ Q (tD (chg s r))
def sp__law_changed : DSp := sp_changed_side
def sp_with_keys : DSp := fun _ ds Q _ => ∃ x t a b d s, ds = [x, tD t] ∧ FlD x a b d s ∧ t ∈ sidesL (whL a b d) ∧ Q (flo (keyD a b d) t)
def sp_worm_directions : DSp := fun _ ds Q _ => ∃ x a b d s, ds = [x] ∧ FlD x a b d s ∧ Q (.lst ((worms (whL a b d) s).map .int))
def sp_sides_beside : DSp := fun _ ds Q _ => ∃ x a b d s, ds = [x] ∧ FlD x a b d s ∧ Q (.tup ((worms (whL a b d) s).map fun r => .tup [.int r, tD (chg s r)]))
def sp_turned : DSp := fun _ ds Q R => ∃ x y a b d s, ds = [x, y] ∧ FlD x a b d s ∧ TyK y ∧ (isDir y = false → R ⟨"BadDirection", [("thing", y)]⟩) ∧ ∀ r, y = .int r → 0 ≤ r → r ≤ 4 → if r ∈ worms (whL a b d) s then Q (flo (keyD a b d) (chg s r)) else R ⟨"NoWorm", [("direction", y)]⟩
def sp_with_side : DSp := fun _ ds Q R => ∃ x y a b d s, ds = [x, y] ∧ FlD x a b d s ∧ TyK1 y ∧ (isSide (whL a b d) y = false → R ⟨"NoSuchSide", [("thing", y)]⟩) ∧ ∀ t, y = tD t → t ∈ sidesL (whL a b d) → Q (flo (keyD a b d) t)
def sp_unlike_signs : DSp := fun _ ds Q _ => ∃ k k' s t, ds = [flo k s, flo k' t] ∧ s.length = 5 ∧ t.length = 5 ∧ Q (.lst ((unl s t).map .int))
def sp_turns_between : DSp := fun _ ds Q _ => ∃ x y a b d s k t, ds = [x, y] ∧ FlD x a b d s ∧ y = flo k t ∧ pl 64 k = true ∧ (eqb (keyD a b d) k = false → Q .non) ∧ (eqb (keyD a b d) k = true → k = keyD a b d ∧ t ∈ sidesL (whL a b d) ∧ Q (.tup ((turnsB (whL a b d) (unl s t).length s t).map .int)))
def sp_turns_hold : DSp := fun _ ds Q _ => ∃ x y z a b d s k t, ds = [x, y, z] ∧ FlD x a b d s ∧ y = flo k t ∧ pl 64 k = true ∧ TyK1 z ∧ (∀ xs, z = .tup xs → xs.length ≤ 100) ∧ (eqb (keyD a b d) k = false → Q (.bl false)) ∧ (eqb (keyD a b d) k = true → k = keyD a b d ∧ t ∈ sidesL (whL a b d) ∧ Q (.bl (holdB (whL a b d) s t z)))
def Wld (a b : Int → Int) (d : Int) (s : List Int) : Prop := KA 1000 a b d ∧ s ∈ sidesL (whL a b d)
def Wld3 (a b : Int → Int) (d : Int) (s : List Int) : Prop := KA 300 a b d ∧ s ∈ sidesL (whL a b d)
theorem Wld3.up {a b : Int → Int} {d : Int} {s : List Int} (h : Wld3 a b d s) : Wld a b d s := ⟨h.1.up (by decide), h.2⟩
def wrl (a b : Int → Int) (d : Int) (s : List Int) : D := .tup [.int d, keysP a b, tD s]
def sp__law_number : DSp := fun W ds Q _ => ∃ d l, W = some (d, l) ∧ ds = [dkD d] ∧ ∀ i, Sz 120 i → Q (.int i)
def sp__law_keys : DSp := fun _ ds Q _ => ∃ r p q u v, ∃ n : Nat, ds = [.int r, pr p q, pr u v] ∧ 0 ≤ r ∧ r ≤ 4 ∧ Sz n p ∧ Sz n q ∧ Sz n u ∧ Sz n v ∧ ∀ a b, KR a b → a r = p → b r = q → a ((r + 1) % 5) = u → b ((r + 1) % 5) = v → Szf (n + 3) a → Szf (n + 3) b → Q (keysP a b)
def sp__law_whole : DSp := fun _ ds Q _ => ∃ a b d, ds = [.int d, keysP a b] ∧ 1 ≤ d ∧ Q (.lst ((whL a b d).map .int))
def sp__law_sides : DSp := fun _ ds Q _ => ∃ a b d, ds = [.int d, keysP a b] ∧ 1 ≤ d ∧ KR a b ∧ Q (.lst ((sidesL (whL a b d)).map tD))
def sp__law_world : DSp := fun W ds Q _ => ∃ d l e, W = some (d, l) ∧ ds = [dkD d, .bl e] ∧ ∀ a b m s, Wld3 a b m s → Q (wrl a b m s)
def sp__law_regular : DSp := fun W ds Q _ => ∃ d l, W = some (d, l) ∧ ds = [dkD d] ∧ ∀ a b m s, Wld3 a b m s → Q (wrl a b m s)
def sp__law_floor : DSp := fun W ds Q _ => ∃ d l a b m s, W = some (d, l) ∧ ds = [dkD d, wrl a b m s] ∧ Wld a b m s ∧ Q (flo (keyD a b m) s)
def sp__law_worms : DSp := fun _ ds Q _ => ∃ a b d s, ds = [wrl a b d s] ∧ Wld a b d s ∧ Q (.lst ((worms (whL a b d) s).map .int))
def sp__law_moved : DSp := fun _ ds Q _ => ∃ a b d s n0 n1 n2 n3 n4, ds = [wrl a b d s, tD [n0, n1, n2, n3, n4]] ∧ Wld3 a b d s ∧ Szf 100 (at5 n0 n1 n2 n3 n4) ∧ n0 + n1 + n2 + n3 + n4 = 0 ∧ ∀ a' b', Wld a' b' d s → a' 0 = a 0 + d * (n4 + n0 + n1) → Q (wrl a' b' d s)
def turnedD (a b : Int → Int) (d : Int) (s : List Int) : D → D
  | .int r => if 0 ≤ r ∧ r ≤ 4 then (if r ∈ worms (whL a b d) s then flo (keyD a b d) (chg s r) else .tup [.str "NoWorm", .int r]) else .tup [.str "BadDirection", .int r]
  | y => .tup [.str "BadDirection", y]
def sp__law_turned : DSp := fun _ ds Q _ => ∃ x y a b d s, ds = [x, y] ∧ FlD x a b d s ∧ TyK y ∧ Q (turnedD a b d s y)
def sp__law_sided : DSp := fun _ ds Q _ => ∃ x y a b d s, ds = [x, y] ∧ FlD x a b d s ∧ TyK1 y ∧ (isSide (whL a b d) y = false → Q (.tup [.str "NoSuchSide", y])) ∧ ∀ t, y = tD t → t ∈ sidesL (whL a b d) → Q (flo (keyD a b d) t)
def sp__law_turns : DSp := fun _ ds Q _ => ∃ wl s t, ds = [.lst ((sidesL wl).map tD), tD s, tD t] ∧ wl ∈ WL ∧ s ∈ sidesL wl ∧ t ∈ sidesL wl ∧ Q (.lst ((rightsT wl s t).map tD))
def sp__law_are_turns_right : DSp := fun W ds Q _ => ∃ d l a b m i j s t, W = some (d, l) ∧ ds = [dkD d, .lst ((sidesL (whL a b m)).map tD), .lst ((sidesL (whL a b m)).map (flo (keyD a b m))), .int i, .int j] ∧ KA 1000 a b m ∧ 0 ≤ i ∧ 0 ≤ j ∧ (sidesL (whL a b m))[i.toNat]? = some s ∧ (sidesL (whL a b m))[j.toNat]? = some t ∧ Q (.bl true)
def sp__law_is_ring : DSp := fun W ds Q _ => ∃ d l a b m s, W = some (d, l) ∧ ds = [dkD d, flo (keyD a b m) s] ∧ Wld a b m s ∧ (sidesL (whL a b m)).length = 10 ∧ Q (.bl true)
def sp__law_is_floor_right : DSp := fun W ds Q _ => ∃ d l a b m s, W = some (d, l) ∧ ds = [dkD d, wrl a b m s, flo (keyD a b m) s] ∧ Wld a b m s ∧ Q (.bl true)
def sp__law_same : DSp := fun _ ds Q _ => (∃ x, ds = [x, x] ∧ Rok x ∧ Q (.bl true)) ∨ (ds = [.bl false, .bl true] ∧ Q (.bl false))
def eqsO (n : Str) : Option DSp := if n = "Floor" then some sp_Floor__eq else none
@[simp] theorem eqsO_Floor : eqsO "Floor" = some sp_Floor__eq := if_pos rfl
def g_is_integer (W : WD) (R : Er → Prop) : GS :=
  (gRet (gAnd (gBlt (isiX knownO) (gCons (gVar 0) (gCons (gC (.opq (.ty "int"))) gNil))) (gNot (gBlt (isiX knownO) (gCons (gVar 0) (gCons (gC (.opq (.ty "bool"))) gNil))))))
def g_normal (W : WD) (R : Er → Prop) : GS :=
  (gSeq (gSet 3 (gBlt gcdD (gCons (gBlt gcdD (gCons (gVar 0) (gCons (gVar 1) gNil))) (gCons (gVar 2) gNil))))
    (gSeq (gIfS (gB (gBin ltD (gVar 2) (gC (.int 0)))) (gSet 3 (gUn negD (gVar 3))) gSkip)
    (gRet (gTup (gCons (gBin fdivA (gVar 0) (gVar 3)) (gCons (gBin fdivA (gVar 1) (gVar 3)) (gCons (gBin fdivA (gVar 2) (gVar 3)) gNil)))))))
def g_negative (W : WD) (R : Er → Prop) : GS :=
  (gRet (gTup (gCons (gUn negD (gBin ixD (gVar 0) (gC (.int 0)))) (gCons (gUn negD (gBin ixD (gVar 0) (gC (.int 1)))) (gCons (gBin ixD (gVar 0) (gC (.int 2))) gNil)))))
def g_times_g (W : WD) (R : Er → Prop) : GS :=
  (gRet (gTup (gCons (gBin ixD (gVar 0) (gC (.int 1))) (gCons (gBin addD (gBin ixD (gVar 0) (gC (.int 0))) (gBin ixD (gVar 0) (gC (.int 1)))) (gCons (gBin ixD (gVar 0) (gC (.int 2))) gNil)))))
def g_is_whole_number (W : WD) (R : Er → Prop) : GS :=
  (gRet (gAnd (gBin eqD (gBin modD (gBin ixD (gVar 0) (gC (.int 0))) (gBin ixD (gVar 0) (gC (.int 2)))) (gC (.int 0))) (gBin eqD (gBin modD (gBin ixD (gVar 0) (gC (.int 1))) (gBin ixD (gVar 0) (gC (.int 2)))) (gC (.int 0)))))
def g_Floor__eq (W : WD) (R : Er → Prop) : GS :=
  (gRet (gAnd (gIsO knownO "Floor" (gVar 1)) (gAnd (gBin eqD (gFld fldO "all_keys" (gVar 0)) (gFld fldO "all_keys" (gVar 1))) (gBin eqD (gFld fldO "side" (gVar 0)) (gFld fldO "side" (gVar 1))))))
def g_changed_side (W : WD) (R : Er → Prop) : GS :=
  (gRet (gBlt tupleD (gCons (gFrz (gLc (gEnum (gCons (gVar 0) gNil)) (ggTup [2, 3]) gYes (gIf (gB (gBin eqD (gVar 2) (gVar 1))) (gUn negD (gVar 3)) (gVar 3)) [2, 3])) gNil)))
def g_unlike_signs (W : WD) (R : Er → Prop) : GS :=
  (gRet (gFrz (gLc (gRng1 (gCons (gC (.int 5)) gNil)) (ggName 2) (gB (gBin neD (gBin ixD (gFld fldO "side" (gVar 0)) (gVar 2)) (gBin ixD (gFld fldO "side" (gVar 1)) (gVar 2)))) (gVar 2) [2])))
def g__law_keys (W : WD) (R : Er → Prop) : GS :=
  (gSeq (gSetL 3 (gBinF repF (gFrz (gLst (gCons (gVar 1) gNil))) (gC (.int 5))))
    (gSeq (gSetI 3 (gVar 2) (gBin modD (gBlt intB (gCons (gBin addD (gVar 0) (gC (.int 1))) gNil)) (gC (.int 5))))
    (gSeq (gFor (gRng1 (gCons (gC (.int 3)) gNil)) (ggName 4) (gSeq (gPar [5, 6] (gCons (gBin ixD (gVarB 3) (gBin modD (gBlt intB (gCons (gBin addD (gVar 0) (gVar 4)) gNil)) (gC (.int 5)))) (gCons (gBin ixD (gVarB 3) (gBin modD (gBlt intB (gCons (gBin addD (gBin addD (gVar 0) (gVar 4)) (gC (.int 1))) gNil)) (gC (.int 5)))) gNil)))
    (gSetI 3 (gTup (gCons (gBin subD (gUn negD (gBin ixD (gVar 6) (gC (.int 1)))) (gBin ixD (gVar 5) (gC (.int 0)))) (gCons (gBin subD (gBin subD (gUn negD (gBin ixD (gVar 6) (gC (.int 0)))) (gBin ixD (gVar 6) (gC (.int 1)))) (gBin ixD (gVar 5) (gC (.int 1)))) gNil))) (gBin modD (gBlt intB (gCons (gBin addD (gBin addD (gVar 0) (gVar 4)) (gC (.int 2))) gNil)) (gC (.int 5))))))
    (gRet (gBlt tupleD (gCons (gVarB 3) gNil))))))
def g__law_whole (W : WD) (R : Er → Prop) : GS :=
  (gRet (gFrz (gLc (gRng1 (gCons (gC (.int 5)) gNil)) (ggName 2) (gAndT (gB (gBin eqD (gBin modD (gBlt intB (gCons (gBin ixD (gBin ixD (gVar 1) (gVar 2)) (gC (.int 0))) gNil)) (gVar 0)) (gC (.int 0)))) (gB (gBin eqD (gBin modD (gBlt intB (gCons (gBin ixD (gBin ixD (gVar 1) (gVar 2)) (gC (.int 1))) gNil)) (gVar 0)) (gC (.int 0))))) (gVar 2) [2])))
def g__law_same (W : WD) (R : Er → Prop) : GS :=
  (gRet (gBin eqD (gBlt reprB (gCons (gVar 0) gNil)) (gBlt reprB (gCons (gVar 1) gNil))))
def g__law_changed (W : WD) (R : Er → Prop) : GS :=
  (gRet (gBlt tupleD (gCons (gFrz (gLc (gEnum (gCons (gVar 0) gNil)) (ggTup [2, 3]) gYes (gIf (gB (gBin eqD (gVar 2) (gVar 1))) (gUn negD (gVar 3)) (gVar 3)) [2, 3])) gNil)))
def g__law_moved (W : WD) (R : Er → Prop) : GS :=
  (gSeq (gSetT [2, 3, 4] (gVar 0))
    (gSeq (gSet 5 (gFrz (gLc (gRng1 (gCons (gC (.int 5)) gNil)) (ggName 6) gYes (gTup (gCons (gBin addD (gBin addD (gBin ixD (gVar 1) (gBin subD (gVar 6) (gC (.int 1)))) (gBin ixD (gVar 1) (gVar 6))) (gBin ixD (gVar 1) (gBin subD (gVar 6) (gC (.int 4))))) (gCons (gUn negD (gBin ixD (gVar 1) (gVar 6))) gNil))) [6])))
    (gRet (gTup (gCons (gVar 2) (gCons (gBlt tupleD (gCons (gFrz (gLc (gZipM (gCons (gVar 3) (gCons (gVar 5) gNil))) (ggT 2 (ggCons (ggT 2 (ggCons (ggName 7) (ggCons (ggName 8) ggNil))) (ggCons (ggT 2 (ggCons (ggName 9) (ggCons (ggName 10) ggNil))) ggNil))) gYes (gTup (gCons (gBin addD (gVar 7) (gBin mulD (gVar 2) (gVar 9))) (gCons (gBin addD (gVar 8) (gBin mulD (gVar 2) (gVar 10))) gNil))) [7, 8, 9, 10])) gNil)) (gCons (gVar 4) gNil)))))))
def g_is_number (W : WD) (R : Er → Prop) : GS :=
  (gSeq (gIfS (gOrT (gNotT (gTru (gBlt (isiX knownO) (gCons (gVar 0) (gCons (gC (.opq (.ty "tuple"))) gNil))))) (gB (gBin neD (gBlt lenD (gCons (gVar 0) gNil)) (gC (.int 3))))) (gRet (gC (.bl false))) gSkip)
    (gRet (gAnd (gCall sp_is_integer W R (gCons (gBin ixD (gVar 0) (gC (.int 0))) gNil)) (gAnd (gCall sp_is_integer W R (gCons (gBin ixD (gVar 0) (gC (.int 1))) gNil)) (gAnd (gCall sp_is_integer W R (gCons (gBin ixD (gVar 0) (gC (.int 2))) gNil)) (gBin geD (gBin ixD (gVar 0) (gC (.int 2))) (gC (.int 1))))))))
def g_added (W : WD) (R : Er → Prop) : GS :=
  (gSeq (gSet 2 (gBin mulD (gBin ixD (gVar 0) (gC (.int 2))) (gBin ixD (gVar 1) (gC (.int 2)))))
    (gRet (gCall sp_normal W R (gCons (gBin addD (gBin mulD (gBin ixD (gVar 0) (gC (.int 0))) (gBin ixD (gVar 1) (gC (.int 2)))) (gBin mulD (gBin ixD (gVar 1) (gC (.int 0))) (gBin ixD (gVar 0) (gC (.int 2))))) (gCons (gBin addD (gBin mulD (gBin ixD (gVar 0) (gC (.int 1))) (gBin ixD (gVar 1) (gC (.int 2)))) (gBin mulD (gBin ixD (gVar 1) (gC (.int 1))) (gBin ixD (gVar 0) (gC (.int 2))))) (gCons (gVar 2) gNil))))))
def g_is_direction (W : WD) (R : Er → Prop) : GS :=
  (gRet (gAnd (gCall sp_is_integer W R (gCons (gVar 0) gNil)) (gChain leD leD (gC (.int 0)) (gVar 0) (gC (.int 4)))))
def g_whole_directions (W : WD) (R : Er → Prop) : GS :=
  (gRet (gBlt tupleD (gCons (gFrz (gLc (gRng1 (gCons (gC (.int 5)) gNil)) (ggName 1) (gTru (gCall sp_is_whole_number W (fun _ => False) (gCons (gBin ixD (gVar 0) (gVar 1)) gNil))) (gVar 1) [1])) gNil)))
def g__law_pick (W : WD) (R : Er → Prop) : GS :=
  (gRet (gBin ixD (gVar 1) (gCall sp__law_draw W R (gCons (gVar 0) (gCons (gBlt lenD (gCons (gVar 1) gNil)) gNil)))))
def g__law_number (W : WD) (R : Er → Prop) : GS :=
  (gSeq (gSet 1 (gCall sp__law_draw W R (gCons (gVar 0) (gCons (gC (.int 8)) gNil))))
    (gSeq (gIfS (gB (gBin ltD (gVar 1) (gC (.int 6)))) (gRet (gBin subD (gCall sp__law_draw W R (gCons (gVar 0) (gCons (gC (.int 25)) gNil))) (gC (.int 12)))) gSkip)
    (gSeq (gPar [2, 3] (gCons (gC (.int 0)) (gCons (gBin subD (gC (.int 1)) (gBin mulD (gC (.int 2)) (gCall sp__law_draw W R (gCons (gVar 0) (gCons (gC (.int 2)) gNil))))) gNil)))
    (gSeq (gFor (gRng1 (gCons (gIf (gB (gBin eqD (gVar 1) (gC (.int 6)))) (gC (.int 5)) (gC (.int 2))) gNil)) (ggName 4) (gSet 2 (gBin addD (gBin mulD (gVar 2) (gC (.int 1000000))) (gCall sp__law_draw W R (gCons (gVar 0) (gCons (gC (.int 1000000)) gNil))))))
    (gRet (gBin mulD (gVar 3) (gVar 2)))))))
def g__law_sides (W : WD) (R : Er → Prop) : GS :=
  (gSeq (gSet 2 (gCall sp__law_whole W R (gCons (gVar 0) (gCons (gVar 1) gNil))))
    (gSeq (gIfS (gB (gBin eqD (gVar 2) (gFrz (gLst gNil)))) (gRet (gFrz (gLst (gCons (gTup (gCons (gC (.int 0)) (gCons (gC (.int 0)) (gCons (gC (.int 0)) (gCons (gC (.int 0)) (gCons (gC (.int 0)) gNil)))))) gNil)))) gSkip)
    (gSeq (gIfS (gB (gBin eqD (gBlt lenD (gCons (gVar 2) gNil)) (gC (.int 1)))) (gRet (gFrz (gLc (gIter (gTup (gCons (gUn negD (gC (.int 1))) (gCons (gC (.int 1)) gNil)))) (ggName 6) gYes (gBlt tupleD (gCons (gFrz (gLc (gRng1 (gCons (gC (.int 5)) gNil)) (ggName 7) gYes (gIf (gB (gBin eqD (gVar 7) (gBin ixD (gVar 2) (gC (.int 0))))) (gVar 6) (gC (.int 0))) [7])) gNil)) [6]))) gSkip)
    (gSeq (gParR 3 4 (gTup (gCons (gC (.int 1)) (gCons (gUn negD (gC (.int 1))) (gCons (gC (.int 1)) (gCons (gC (.int 1)) (gCons (gUn negD (gC (.int 1))) gNil)))))) (gLst gNil))
    (gSeq (gFor (gRng1 (gCons (gC (.int 5)) gNil)) (ggName 5) (gSeq (gExt 4 (gFrz (gLst (gCons (gVar 3) (gCons (gBlt tupleD (gCons (gFrz (gLc (gIter (gVar 3)) (ggName 8) gYes (gUn negD (gVar 8)) [8])) gNil)) gNil)))))
    (gSet 3 (gBin addD (gSl slD (gVar 3) (gPart (gUn negD (gC (.int 1)))) gNoPart) (gSl slD (gVar 3) gNoPart (gPart (gUn negD (gC (.int 1)))))))))
    (gRet (gFrz (gBltF sortT (gCons (gVarB 4) gNil)))))))))
def g__law_turns (W : WD) (R : Er → Prop) : GS :=
  (gSeq (gSet 3 (gFrz (gLst (gCons (gTup (gCons (gTup gNil) (gCons (gVar 1) gNil))) gNil))))
    (gSeq (gFor (gRng1 (gCons (gBlt lenD (gCons (gFrz (gLc (gRng1 (gCons (gC (.int 5)) gNil)) (ggName 8) (gB (gBin neD (gBin ixD (gVar 1) (gVar 8)) (gBin ixD (gVar 2) (gVar 8)))) (gVar 8) [8])) gNil)) gNil)) (ggName 4) (gSeq (gSetL 5 (gLst gNil))
    (gSeq (gFor (gIter (gVar 3)) (ggTup [6, 7]) (gFor (gRng1 (gCons (gC (.int 5)) gNil)) (ggName 8) (gIfS (gAndT (gB (gBin neD (gBin ixD (gVar 7) (gVar 8)) (gBin ixD (gVar 2) (gVar 8)))) (gB (gBin (inD false) (gCall sp__law_changed W R (gCons (gVar 7) (gCons (gVar 8) gNil))) (gVar 0)))) (gApp 5 (gTup (gCons (gBin addD (gVar 6) (gTup (gCons (gVar 8) gNil))) (gCons (gCall sp__law_changed W R (gCons (gVar 7) (gCons (gVar 8) gNil))) gNil)))) gSkip)))
    (gFz 5 (gSet 3 (gVar 5))))))
    (gRet (gFrz (gLc (gIter (gVar 3)) (ggTup [6, 7]) gYes (gVar 6) [6, 7])))))
def g_taken (W : WD) (R : Er → Prop) : GS :=
  (gRet (gCall sp_added W R (gCons (gVar 0) (gCons (gCall sp_negative W R (gCons (gVar 1) gNil)) gNil))))
def g_sides_of (W : WD) (R : Er → Prop) : GS :=
  (gSeq (gSet 1 (gCall sp_whole_directions W R (gCons (gVar 0) gNil)))
    (gSeq (gIfS (gB (gBin eqD (gBlt lenD (gCons (gVar 1) gNil)) (gC (.int 0)))) (gRet (gTup (gCons (gC (.tup [.int 0, .int 0, .int 0, .int 0, .int 0])) gNil))) gSkip)
    (gSeq (gIfS (gB (gBin eqD (gBlt lenD (gCons (gVar 1) gNil)) (gC (.int 1)))) (gSeq (gSet 4 (gBin ixD (gVar 1) (gC (.int 0))))
    (gSeq (gSet 5 (gBlt tupleD (gCons (gFrz (gLc (gRng1 (gCons (gC (.int 5)) gNil)) (ggName 6) gYes (gIf (gB (gBin eqD (gVar 6) (gVar 4))) (gC (.int 1)) (gC (.int 0))) [6])) gNil)))
    (gRet (gTup (gCons (gBlt tupleD (gCons (gFrz (gLc (gIter (gVar 5)) (ggName 7) gYes (gUn negD (gVar 7)) [7])) gNil)) (gCons (gVar 5) gNil)))))) gSkip)
    (gSeq (gSetL 2 (gLst gNil))
    (gSeq (gFor (gRng1 (gCons (gC (.int 5)) gNil)) (ggName 3) (gSeq (gSet 5 (gBlt tupleD (gCons (gFrz (gLc (gRng1 (gCons (gC (.int 5)) gNil)) (ggName 6) gYes (gBin ixD (gC (.tup [.int 1, .int (-1), .int 1, .int 1, .int (-1)])) (gBin modD (gBin subD (gVar 6) (gVar 3)) (gC (.int 5)))) [6])) gNil)))
    (gSeq (gApp 2 (gVar 5))
    (gApp 2 (gBlt tupleD (gCons (gFrz (gLc (gIter (gVar 5)) (ggName 7) gYes (gUn negD (gVar 7)) [7])) gNil))))))
    (gRet (gBlt tupleD (gCons (gFrz (gBltF sortT (gCons (gVarB 2) gNil))) gNil))))))))
def g_whole_keys (W : WD) (R : Er → Prop) : GS :=
  (gRet (gCall sp_whole_directions W R (gCons (gFld fldO "all_keys" (gVar 0)) gNil)))
def g__law_world (W : WD) (R : Er → Prop) : GS :=
  (gSeq (gSet 2 (gCall sp__law_pick W R (gCons (gVar 0) (gCons (gTup (gCons (gC (.int 3)) (gCons (gC (.int 2)) (gCons (gC (.int 1)) (gCons (gC (.int 5)) (gCons (gC (.int 4)) (gCons (gC (.int 7)) (gCons (gC (.int 2)) (gCons (gC (.int 8)) (gCons (gC (.int 6)) (gCons (gC (.int 11)) (gCons (gC (.int 12)) (gCons (gC (.int 1)) (gCons (gC (.int 9)) (gCons (gC (.int 10)) (gCons (gC (.int 2)) (gCons (gC (.int 1000003)) gNil))))))))))))))))) gNil))))
    (gSeq (gSet 3 (gCall sp__law_draw W R (gCons (gVar 0) (gCons (gC (.int 5)) gNil))))
    (gSeq (gSet 4 (gTup (gCons (gCall sp__law_draw W R (gCons (gVar 0) (gCons (gVar 2) gNil))) (gCons (gCall sp__law_draw W R (gCons (gVar 0) (gCons (gVar 2) gNil))) gNil))))
    (gSeq (gIfS (gTru (gVar 1)) (gSet 4 (gTup (gCons (gC (.int 0)) (gCons (gC (.int 0)) gNil)))) gSkip)
    (gSeq (gSet 5 (gTup (gCons (gCall sp__law_draw W R (gCons (gVar 0) (gCons (gVar 2) gNil))) (gCons (gCall sp__law_draw W R (gCons (gVar 0) (gCons (gVar 2) gNil))) gNil))))
    (gSeq (gSet 4 (gTup (gCons (gBin addD (gBin ixD (gVar 4) (gC (.int 0))) (gBin mulD (gVar 2) (gCall sp__law_number W R (gCons (gVar 0) gNil)))) (gCons (gBin addD (gBin ixD (gVar 4) (gC (.int 1))) (gBin mulD (gVar 2) (gCall sp__law_number W R (gCons (gVar 0) gNil)))) gNil))))
    (gSeq (gSet 5 (gTup (gCons (gBin addD (gBin ixD (gVar 5) (gC (.int 0))) (gBin mulD (gVar 2) (gCall sp__law_number W R (gCons (gVar 0) gNil)))) (gCons (gBin addD (gBin ixD (gVar 5) (gC (.int 1))) (gBin mulD (gVar 2) (gCall sp__law_number W R (gCons (gVar 0) gNil)))) gNil))))
    (gSeq (gSet 6 (gCall sp__law_keys W R (gCons (gVar 3) (gCons (gVar 4) (gCons (gVar 5) gNil)))))
    (gRet (gTup (gCons (gVar 2) (gCons (gVar 6) (gCons (gCall sp__law_pick W R (gCons (gVar 0) (gCons (gCall sp__law_sides W R (gCons (gVar 2) (gCons (gVar 6) gNil))) gNil))) gNil)))))))))))))
def g__law_worms (W : WD) (R : Er → Prop) : GS :=
  (gSeq (gSetT [1, 2, 3] (gVar 0))
    (gSeq (gSet 4 (gCall sp__law_sides W R (gCons (gVar 1) (gCons (gVar 2) gNil))))
    (gRet (gFrz (gLc (gIter (gCall sp__law_whole W R (gCons (gVar 1) (gCons (gVar 2) gNil)))) (ggName 5) (gB (gBin (inD false) (gCall sp__law_changed W (fun _ => False) (gCons (gVar 3) (gCons (gVar 5) gNil))) (gVar 4))) (gVar 5) [5])))))
def g__law_regular (W : WD) (R : Er → Prop) : GS :=
  (gSeq (gPar [1, 2] (gCons (gCall sp__law_pick W R (gCons (gVar 0) (gCons (gTup (gCons (gC (.int 3)) (gCons (gC (.int 5)) (gCons (gC (.int 4)) (gCons (gC (.int 7)) (gCons (gC (.int 8)) (gCons (gC (.int 6)) (gCons (gC (.int 11)) (gCons (gC (.int 9)) (gCons (gC (.int 10)) (gCons (gC (.int 12)) (gCons (gC (.int 1000003)) gNil)))))))))))) gNil))) (gCons (gCall sp__law_draw W R (gCons (gVar 0) (gCons (gC (.int 5)) gNil))) gNil)))
    (gSeq (gPar [3, 4] (gCons (gTup (gCons (gCall sp__law_draw W R (gCons (gVar 0) (gCons (gVar 1) gNil))) (gCons (gCall sp__law_draw W R (gCons (gVar 0) (gCons (gVar 1) gNil))) gNil))) (gCons (gTup (gCons (gCall sp__law_draw W R (gCons (gVar 0) (gCons (gVar 1) gNil))) (gCons (gCall sp__law_draw W R (gCons (gVar 0) (gCons (gVar 1) gNil))) gNil))) gNil)))
    (gSeq (gIfS (gB (gBin neD (gCall sp__law_whole W R (gCons (gVar 1) (gCons (gCall sp__law_keys W R (gCons (gVar 2) (gCons (gVar 3) (gCons (gVar 4) gNil)))) gNil))) (gFrz (gLst gNil)))) (gSetT [3, 4] (gTup (gCons (gTup (gCons (gC (.int 1)) (gCons (gC (.int 0)) gNil))) (gCons (gTup (gCons (gC (.int 1)) (gCons (gC (.int 0)) gNil))) gNil)))) gSkip)
    (gSeq (gSet 3 (gTup (gCons (gBin addD (gBin ixD (gVar 3) (gC (.int 0))) (gBin mulD (gVar 1) (gCall sp__law_number W R (gCons (gVar 0) gNil)))) (gCons (gBin addD (gBin ixD (gVar 3) (gC (.int 1))) (gBin mulD (gVar 1) (gCall sp__law_number W R (gCons (gVar 0) gNil)))) gNil))))
    (gSeq (gSet 4 (gTup (gCons (gBin addD (gBin ixD (gVar 4) (gC (.int 0))) (gBin mulD (gVar 1) (gCall sp__law_number W R (gCons (gVar 0) gNil)))) (gCons (gBin addD (gBin ixD (gVar 4) (gC (.int 1))) (gBin mulD (gVar 1) (gCall sp__law_number W R (gCons (gVar 0) gNil)))) gNil))))
    (gRet (gTup (gCons (gVar 1) (gCons (gCall sp__law_keys W R (gCons (gVar 2) (gCons (gVar 3) (gCons (gVar 4) gNil)))) (gCons (gTup (gCons (gC (.int 0)) (gCons (gC (.int 0)) (gCons (gC (.int 0)) (gCons (gC (.int 0)) (gCons (gC (.int 0)) gNil)))))) gNil))))))))))
def g_keys_from (W : WD) (R : Er → Prop) : GS :=
  (gSeq (gSetL 2 (gLst (gCons (gCall sp_normal W R (gCons (gBin ixD (gVar 0) (gC (.int 0))) (gCons (gBin ixD (gVar 0) (gC (.int 1))) (gCons (gBin ixD (gVar 0) (gC (.int 2))) gNil)))) (gCons (gCall sp_normal W R (gCons (gBin ixD (gVar 1) (gC (.int 0))) (gCons (gBin ixD (gVar 1) (gC (.int 1))) (gCons (gBin ixD (gVar 1) (gC (.int 2))) gNil)))) gNil))))
    (gSeq (gFor (gRng2 (gCons (gC (.int 1)) (gCons (gC (.int 4)) gNil))) (ggName 3) (gApp 2 (gCall sp_taken W R (gCons (gCall sp_negative W R (gCons (gCall sp_times_g W R (gCons (gBin ixD (gVarB 2) (gVar 3)) gNil)) gNil)) (gCons (gBin ixD (gVarB 2) (gBin subD (gVar 3) (gC (.int 1)))) gNil)))))
    (gRet (gBlt tupleD (gCons (gVarB 2) gNil)))))
def g_is_side (W : WD) (R : Er → Prop) : GS :=
  (gSeq (gIfS (gOrT (gNotT (gTru (gBlt (isiX knownO) (gCons (gVar 1) (gCons (gC (.opq (.ty "tuple"))) gNil))))) (gOrT (gB (gBin neD (gBlt lenD (gCons (gVar 1) gNil)) (gC (.int 5)))) (gNotT (gTru (gBlt allD (gCons (gFrz (gLc (gIter (gVar 1)) (ggName 2) gYes (gCall sp_is_integer W (fun _ => False) (gCons (gVar 2) gNil)) [2])) gNil)))))) (gRet (gC (.bl false))) gSkip)
    (gRet (gBin (inD false) (gVar 1) (gCall sp_sides_of W R (gCons (gVar 0) gNil)))))
def g_worm_directions (W : WD) (R : Er → Prop) : GS :=
  (gSeq (gSet 1 (gCall sp_sides_of W R (gCons (gFld fldO "all_keys" (gVar 0)) gNil)))
    (gRet (gFrz (gLc (gIter (gCall sp_whole_keys W R (gCons (gVar 0) gNil))) (ggName 2) (gB (gBin (inD false) (gCall sp_changed_side W (fun _ => False) (gCons (gFld fldO "side" (gVar 0)) (gCons (gVar 2) gNil))) (gVar 1))) (gVar 2) [2]))))
def g_Floor (W : WD) (R : Er → Prop) : GS :=
  (gSeq (gFor (gIter (gTup (gCons (gVar 1) (gCons (gVar 2) gNil)))) (ggName 4) (gIfS (gNotT (gTru (gCall sp_is_number W R (gCons (gVar 4) gNil)))) (gRaise "BadNumber" "thing" (gVar 4) R) gSkip))
    (gSeq (gSet 5 (gCall sp_keys_from W R (gCons (gVar 1) (gCons (gVar 2) gNil))))
    (gSeq (gIfS (gNotT (gTru (gCall sp_is_side W R (gCons (gVar 5) (gCons (gVar 3) gNil))))) (gRaise "BadSide" "thing" (gVar 3) R) gSkip)
    (gSeq (gSetF fldO 0 "all_keys" (gVar 5))
    (gSetF fldO 0 "side" (gVar 3))))))
def g_sides_beside (W : WD) (R : Er → Prop) : GS :=
  (gRet (gBlt tupleD (gCons (gFrz (gLc (gIter (gCall sp_worm_directions W R (gCons (gVar 0) gNil))) (ggName 1) gYes (gTup (gCons (gVar 1) (gCons (gCall sp_changed_side W (fun _ => False) (gCons (gFld fldO "side" (gVar 0)) (gCons (gVar 1) gNil))) gNil))) [1])) gNil)))
def g_with_keys (W : WD) (R : Er → Prop) : GS :=
  (gRet (gMake sp_Floor [.tup [.int 0, .int 0, .int 0, .int 0, .int 0]] 3 0 [0, 1, 2] W R (gCons (gBin ixD (gFld fldO "all_keys" (gVar 0)) (gC (.int 0))) (gCons (gBin ixD (gFld fldO "all_keys" (gVar 0)) (gC (.int 1))) (gCons (gVar 1) gNil))) gNil))
def g__law_floor (W : WD) (R : Er → Prop) : GS :=
  (gSeq (gSetT [2, 3, 4] (gVar 1))
    (gSeq (gSet 5 (gCall sp__law_pick W R (gCons (gVar 0) (gCons (gTup (gCons (gC (.int 1)) (gCons (gC (.int 1)) (gCons (gC (.int 2)) (gCons (gC (.int 3)) gNil))))) gNil))))
    (gSeq (gPar [6, 7] (gCons (gTup (gCons (gBin mulD (gBin ixD (gBin ixD (gVar 3) (gC (.int 0))) (gC (.int 0))) (gVar 5)) (gCons (gBin mulD (gBin ixD (gBin ixD (gVar 3) (gC (.int 0))) (gC (.int 1))) (gVar 5)) (gCons (gBin mulD (gVar 2) (gVar 5)) gNil)))) (gCons (gTup (gCons (gBin mulD (gBin ixD (gBin ixD (gVar 3) (gC (.int 1))) (gC (.int 0))) (gVar 5)) (gCons (gBin mulD (gBin ixD (gBin ixD (gVar 3) (gC (.int 1))) (gC (.int 1))) (gVar 5)) (gCons (gBin mulD (gVar 2) (gVar 5)) gNil)))) gNil)))
    (gSeq (gIfS (gAndT (gB (gBin eqD (gVar 4) (gTup (gCons (gC (.int 0)) (gCons (gC (.int 0)) (gCons (gC (.int 0)) (gCons (gC (.int 0)) (gCons (gC (.int 0)) gNil)))))))) (gB (gBin eqD (gVar 5) (gC (.int 1))))) (gRet (gMake sp_Floor [.tup [.int 0, .int 0, .int 0, .int 0, .int 0]] 2 0 [0, 1, 2] W R (gCons (gVar 6) (gCons (gVar 7) gNil)) gNil)) gSkip)
    (gRet (gMake sp_Floor [.tup [.int 0, .int 0, .int 0, .int 0, .int 0]] 1 2 [0, 3, 2] W R (gCons (gVar 6) gNil) (gCons (gVar 4) (gCons (gVar 7) gNil))))))))
def g_turned (W : WD) (R : Er → Prop) : GS :=
  (gSeq (gIfS (gNotT (gTru (gCall sp_is_direction W R (gCons (gVar 1) gNil)))) (gRaise "BadDirection" "thing" (gVar 1) R) gSkip)
    (gSeq (gIfS (gB (gBin (inD true) (gVar 1) (gCall sp_worm_directions W R (gCons (gVar 0) gNil)))) (gRaise "NoWorm" "direction" (gVar 1) R) gSkip)
    (gRet (gCall sp_with_keys W R (gCons (gVar 0) (gCons (gCall sp_changed_side W R (gCons (gFld fldO "side" (gVar 0)) (gCons (gVar 1) gNil))) gNil))))))
def g_with_side (W : WD) (R : Er → Prop) : GS :=
  (gSeq (gIfS (gNotT (gTru (gCall sp_is_side W R (gCons (gFld fldO "all_keys" (gVar 0)) (gCons (gVar 1) gNil))))) (gRaise "NoSuchSide" "thing" (gVar 1) R) gSkip)
    (gRet (gCall sp_with_keys W R (gCons (gVar 0) (gCons (gVar 1) gNil)))))
def g_turns_between (W : WD) (R : Er → Prop) : GS :=
  (gSeq (gIfS (gB (gBin neD (gFld fldO "all_keys" (gVar 0)) (gFld fldO "all_keys" (gVar 1)))) (gRet (gC .non)) gSkip)
    (gSeq (gParL 2 3 (gLst gNil) (gVar 0))
    (gSeq (gWhile (gB (gBin neD (gFld fldO "side" (gVar 3)) (gFld fldO "side" (gVar 1)))) (gSeq (gSet 4 (gBin ixD (gFrz (gLc (gIter (gCall sp_worm_directions W R (gCons (gVar 3) gNil))) (ggName 5) (gB (gBin (inD false) (gVar 5) (gCall sp_unlike_signs W (fun _ => False) (gCons (gVar 3) (gCons (gVar 1) gNil))))) (gVar 5) [5])) (gC (.int 0))))
    (gSeq (gApp 2 (gVar 4))
    (gSet 3 (gCall sp_turned W R (gCons (gVar 3) (gCons (gVar 4) gNil)))))))
    (gRet (gBlt tupleD (gCons (gVarB 2) gNil))))))
def g_turns_hold (W : WD) (R : Er → Prop) : GS :=
  (gSeq (gIfS (gOrT (gB (gBin neD (gFld fldO "all_keys" (gVar 0)) (gFld fldO "all_keys" (gVar 1)))) (gOrT (gNotT (gTru (gBlt (isiX knownO) (gCons (gVar 2) (gCons (gC (.opq (.ty "tuple"))) gNil))))) (gNotT (gTru (gBlt allD (gCons (gFrz (gLc (gIter (gVar 2)) (ggName 5) gYes (gCall sp_is_direction W (fun _ => False) (gCons (gVar 5) gNil)) [5])) gNil)))))) (gRet (gC (.bl false))) gSkip)
    (gSeq (gIfS (gB (gBin neD (gBlt lenD (gCons (gVar 2) gNil)) (gBlt lenD (gCons (gCall sp_unlike_signs W R (gCons (gVar 0) (gCons (gVar 1) gNil))) gNil)))) (gRet (gC (.bl false))) gSkip)
    (gSeq (gSet 3 (gVar 0))
    (gSeq (gFor (gIter (gVar 2)) (ggName 4) (gSeq (gIfS (gB (gBin (inD true) (gVar 4) (gCall sp_worm_directions W R (gCons (gVar 3) gNil)))) (gRet (gC (.bl false))) gSkip)
    (gSet 3 (gCall sp_turned W R (gCons (gVar 3) (gCons (gVar 4) gNil))))))
    (gRet (gBin eqD (gFld fldO "side" (gVar 3)) (gFld fldO "side" (gVar 1))))))))
def g__law_turned (W : WD) (R : Er → Prop) : GS :=
  (gTry clsM 3 R (fun R => (gRet (gCall sp_turned W R (gCons (gVar 0) (gCons (gVar 1) gNil))))) [⟨"BadDirection", some 2, fun er a => (gRet (gTup (gCons (gC (.str "BadDirection")) (gCons (gErF knownE_thing "thing" 2 er a) gNil))))⟩, ⟨"NoWorm", some 2, fun er a => (gRet (gTup (gCons (gC (.str "NoWorm")) (gCons (gErF knownE_direction "direction" 2 er a) gNil))))⟩])
def g__law_sided (W : WD) (R : Er → Prop) : GS :=
  (gTry clsM 3 R (fun R => (gRet (gCallK sp_with_side 0 2 [1, 0] W R gNil (gCons (gVar 1) (gCons (gVar 0) gNil))))) [⟨"NoSuchSide", some 2, fun er a => (gRet (gTup (gCons (gC (.str "NoSuchSide")) (gCons (gErF knownE_thing "thing" 2 er a) gNil))))⟩])
def g__law_is_ring (W : WD) (R : Er → Prop) : GS :=
  (gSeq (gSetT [2, 3, 4] (gTup (gCons (gVar 1) (gCons (gC (.int 9)) (gCons (gFld fldO "side" (gVar 1)) gNil)))))
    (gSeq (gFor (gRng1 (gCons (gC (.int 10)) gNil)) (ggName 5) (gSeq (gSet 6 (gFrz (gLc (gIter (gCall sp_sides_beside W R (gCons (gVar 2) gNil))) (ggTup [7, 8]) (gB (gBin neD (gVar 7) (gVar 3))) (gVar 7) [7, 8])))
    (gSeq (gSet 3 (gIf (gB (gBin (eqX eqsO W) (gVar 5) (gC (.int 0)))) (gCall sp__law_pick W R (gCons (gVar 0) (gCons (gVar 6) gNil))) (gBin ixD (gVar 6) (gC (.int 0)))))
    (gSeq (gSet 2 (gCall sp_turned W R (gCons (gVar 2) (gCons (gVar 3) gNil))))
    (gSeq (gIfS (gAndT (gB (gBin (eqX eqsO W) (gVar 5) (gC (.int 4)))) (gNotT (gTru (gCall sp__law_same W R (gCons (gFld fldO "side" (gVar 2)) (gCons (gBlt tupleD (gCons (gFrz (gLc (gIter (gVar 4)) (ggName 9) gYes (gUn negD (gVar 9)) [9])) gNil)) gNil)))))) (gRet (gC (.bl false))) gSkip)
    (gIfS (gAndT (gB (gBin ltD (gVar 5) (gC (.int 9)))) (gTru (gCall sp__law_same W R (gCons (gBin (eqX eqsO W) (gVar 2) (gVar 1)) (gCons (gC (.bl true)) gNil))))) (gRet (gC (.bl false))) gSkip))))))
    (gRet (gCall sp__law_same W R (gCons (gBin (eqX eqsO W) (gVar 2) (gVar 1)) (gCons (gC (.bl true)) gNil))))))
def g__law_are_turns_right (W : WD) (R : Er → Prop) : GS :=
  (gSeq (gSetT [5, 6] (gTup (gCons (gBin ixD (gVar 2) (gVar 3)) (gCons (gBin ixD (gVar 2) (gVar 4)) gNil))))
    (gSeq (gSet 7 (gCall sp__law_turns W R (gCons (gVar 1) (gCons (gBin ixD (gVar 1) (gVar 3)) (gCons (gBin ixD (gVar 1) (gVar 4)) gNil)))))
    (gSeq (gSet 8 (gCall sp_turns_between W R (gCons (gVar 5) (gCons (gVar 6) gNil))))
    (gSeq (gIfS (gOrT (gB (gBin (inD true) (gVar 8) (gVar 7))) (gB (gBin (inD true) (gBlt reprV (gCons (gVar 8) gNil)) (gFrz (gLc (gIter (gVar 7)) (ggName 16) gYes (gBlt reprV (gCons (gVar 16) gNil)) [16]))))) (gRet (gC (.bl false))) gSkip)
    (gSeq (gSet 9 (gVar 5))
    (gSeq (gFor (gIter (gVar 8)) (ggName 10) (gSet 9 (gCall sp_turned W R (gCons (gVar 9) (gCons (gVar 10) gNil)))))
    (gSeq (gIfS (gNotT (gTru (gCall sp__law_same W R (gCons (gBin (eqX eqsO W) (gVar 9) (gVar 6)) (gCons (gC (.bl true)) gNil))))) (gRet (gC (.bl false))) gSkip)
    (gSeq (gPar [11, 10] (gCons (gCall sp__law_pick W R (gCons (gVar 0) (gCons (gVar 7) gNil))) (gCons (gCall sp__law_draw W R (gCons (gVar 0) (gCons (gC (.int 5)) gNil))) gNil)))
    (gSeq (gSetL 12 (gLst (gCons (gUn revD (gVar 11)) (gCons (gFrz (gBltF listD (gCons (gVar 11) gNil))) (gCons (gBin addD (gVar 11) (gTup (gCons (gVar 10) (gCons (gVar 10) gNil)))) (gCons (gSl slD (gVar 11) (gPart (gC (.int 1))) gNoPart) (gCons (gSl slD (gVar 11) gNoPart (gPart (gUn negD (gC (.int 1))))) (gCons (gBin addD (gVar 11) (gTup (gCons (gVar 10) gNil))) (gCons (gTup (gCons (gVar 11) gNil)) (gCons (gC .non) (gCons (gC (.str "")) (gCons (gC (.dic [])) (gCons (gC (.int 0)) gNil)))))))))))))
    (gSeq (gExt 12 (gFrz (gLst (gCons (gBin addD (gBin addD (gSl slD (gVar 11) gNoPart (gPart (gC (.int 1)))) (gTup (gCons (gC (.int 5)) gNil))) (gSl slD (gVar 11) (gPart (gC (.int 2))) gNoPart)) (gCons (gBin addD (gTup (gCons (gC (.bl true)) gNil)) (gSl slD (gVar 11) (gPart (gC (.int 1))) gNoPart)) (gCons (gBlt tupleD (gCons (gFrz (gLc (gIter (gVar 11)) (ggName 17) gYes (gBlt boolD (gCons (gVar 17) gNil)) [17])) gNil)) (gCons (gFrz (gLst gNil)) (gCons (gTup gNil) gNil))))))))
    (gSeq (gExt 12 (gFrz (gLst (gCons (gBin addD (gTup (gCons (gVar 10) (gCons (gVar 10) gNil))) (gVar 11)) (gCons (gBin addD (gVar 11) (gVar 11)) (gCons (gBlt tupleD (gCons (gFrz (gLc (gIter (gVar 11)) (ggName 17) gYes (gBin addD (gVar 17) (gC (.int 5))) [17])) gNil)) (gCons (gTup (gCons (gC (.str "0")) gNil)) (gCons (gTup (gCons (gC .non) gNil)) (gCons (gTup (gCons (gVar 10) gNil)) (gCons (gTup (gCons (gVar 10) (gCons (gVar 10) gNil))) gNil))))))))))
    (gSeq (gIfS (gB (gBin neD (gFrz (gLc (gIter (gVar 7)) (ggName 16) (gNotT (gTru (gCall sp__law_same W (fun _ => False) (gCons (gCall sp_turns_hold W (fun _ => False) (gCons (gVar 5) (gCons (gVar 6) (gCons (gVar 16) gNil)))) (gCons (gC (.bl true)) gNil))))) (gC (.int 1)) [16])) (gFrz (gLst gNil)))) (gRet (gC (.bl false))) gSkip)
    (gSeq (gSet 13 (gFrz (gLc (gIter (gVar 7)) (ggName 16) gYes (gBlt reprV (gCons (gVar 16) gNil)) [16])))
    (gSeq (gFor (gRng1 (gCons (gC (.int 5)) gNil)) (ggName 14) (gSeq (gFz 12 (gSet 15 (gCall sp__law_pick W R (gCons (gVar 0) (gCons (gVar 12) gNil)))))
    (gIfS (gNotT (gTru (gCall sp__law_same W R (gCons (gCallK sp_turns_hold 0 3 [1, 0, 2] W R gNil (gCons (gVar 6) (gCons (gVar 5) (gCons (gVar 15) gNil)))) (gCons (gBin (inD false) (gBlt reprV (gCons (gVar 15) gNil)) (gVar 13)) gNil))))) (gRet (gC (.bl false))) gSkip)))
    (gRet (gC (.bl true)))))))))))))))))
def g__law_is_floor_right (W : WD) (R : Er → Prop) : GS :=
  (gSeq (gSetT [3, 4, 5] (gVar 1))
    (gSeq (gSet 6 (gCall sp__law_worms W R (gCons (gVar 1) gNil)))
    (gSeq (gIfS (gNotT (gTru (gCall sp__law_same W R (gCons (gCall sp_sides_beside W R (gCons (gVar 2) gNil)) (gCons (gBlt tupleD (gCons (gFrz (gLc (gIter (gVar 6)) (ggName 7) gYes (gTup (gCons (gVar 7) (gCons (gCall sp__law_changed W (fun _ => False) (gCons (gVar 5) (gCons (gVar 7) gNil))) gNil))) [7])) gNil)) gNil))))) (gRet (gC (.bl false))) gSkip)
    (gSeq (gFor (gRng1 (gCons (gC (.int 5)) gNil)) (ggName 7) (gSeq (gSet 10 (gTup (gCons (gC (.str "NoWorm")) (gCons (gVar 7) gNil))))
    (gSeq (gIfS (gB (gBin (inD false) (gVar 7) (gVar 6))) (gSet 10 (gCall sp__law_floor W R (gCons (gVar 0) (gCons (gTup (gCons (gVar 3) (gCons (gVar 4) (gCons (gCall sp__law_changed W R (gCons (gVar 5) (gCons (gVar 7) gNil))) gNil)))) gNil)))) gSkip)
    (gIfS (gNotT (gTru (gCall sp__law_same W R (gCons (gBin (eqX eqsO W) (gCall sp__law_turned W R (gCons (gVar 2) (gCons (gVar 7) gNil))) (gVar 10)) (gCons (gC (.bl true)) gNil))))) (gRet (gC (.bl false))) gSkip))))
    (gSeq (gSetL 8 (gLst (gCons (gC (.int 5)) (gCons (gUn negD (gC (.int 1))) (gCons (gC (.bl true)) (gCons (gC (.bl false)) (gCons (gC .non) (gCons (gC (.str "0")) (gCons (gTup (gCons (gC (.int 0)) gNil)) (gCons (gFrz (gLst (gCons (gC (.int 1)) gNil))) (gCons (gBin powD (gC (.int 10)) (gC (.int 30))) (gCons (gC (.dic [])) (gCons (gC (.str "near")) (gCons (gVar 5) (gCons (gTup (gCons (gC (.int 1)) (gCons (gVar 5) gNil))) (gCons (gC (.int 7)) (gCons (gUn negD (gC (.int 4))) (gCons (gC (.str "")) gNil))))))))))))))))))
    (gSeq (gFor (gRng1 (gCons (gC (.int 2)) gNil)) (ggName 9) (gSeq (gFz 8 (gSet 11 (gCall sp__law_pick W R (gCons (gVar 0) (gCons (gVar 8) gNil)))))
    (gIfS (gNotT (gTru (gCall sp__law_same W R (gCons (gCall sp__law_turned W R (gCons (gVar 2) (gCons (gVar 11) gNil))) (gCons (gTup (gCons (gC (.str "BadDirection")) (gCons (gVar 11) gNil))) gNil))))) (gRet (gC (.bl false))) gSkip)))
    (gSeq (gSetL 8 (gLst (gCons (gFrz (gBltF listD (gCons (gVar 5) gNil))) (gCons (gSl slD (gVar 5) gNoPart (gPart (gC (.int 4)))) (gCons (gBin addD (gVar 5) (gTup (gCons (gC (.int 0)) gNil))) (gCons (gTup (gCons (gC (.int 2)) (gCons (gC (.int 0)) (gCons (gC (.int 0)) (gCons (gC (.int 0)) (gCons (gC (.int 0)) gNil)))))) (gCons (gBlt tupleD (gCons (gFrz (gLc (gIter (gVar 5)) (ggName 12) gYes (gBin gtD (gVar 12) (gC (.int 0))) [12])) gNil)) (gCons (gC .non) (gCons (gC (.str "+-++-")) (gCons (gC (.int 1)) (gCons (gTup gNil) (gCons (gC (.dic [])) gNil))))))))))))
    (gSeq (gExt 8 (gFrz (gLst (gCons (gTup (gCons (gC (.int 1)) (gCons (gC (.int 1)) (gCons (gC (.int 1)) (gCons (gC (.int 1)) (gCons (gC (.int 1)) gNil)))))) (gCons (gTup (gCons (gC (.int 1)) (gCons (gC (.int 1)) (gCons (gC (.int 0)) (gCons (gC (.int 0)) (gCons (gC (.int 0)) gNil)))))) (gCons (gTup (gCons (gC (.int 1)) (gCons (gC (.int 1)) (gCons (gUn negD (gC (.int 1))) (gCons (gUn negD (gC (.int 1))) (gCons (gC (.int 1)) gNil)))))) (gCons (gTup (gCons (gTup (gCons (gC (.int 1)) (gCons (gUn negD (gC (.int 1))) (gCons (gC (.int 1)) (gCons (gC (.int 1)) (gCons (gUn negD (gC (.int 1))) gNil)))))) gNil)) gNil)))))))
    (gSeq (gApp 8 (gBlt tupleD (gCons (gFrz (gLc (gIter (gVar 5)) (ggName 12) gYes (gBin addD (gBin mulD (gC (.int 2)) (gVar 12)) (gC (.int 1))) [12])) gNil)))
    (gSeq (gExt 8 (gFrz (gLst (gCons (gTup (gCons (gC (.bl true)) (gCons (gUn negD (gC (.int 1))) (gCons (gC (.int 1)) (gCons (gC (.int 1)) (gCons (gUn negD (gC (.int 1))) gNil)))))) (gCons (gTup (gCons (gUn negD (gC (.int 1))) (gCons (gUn negD (gC (.int 1))) (gCons (gUn negD (gC (.int 1))) (gCons (gUn negD (gC (.int 1))) (gCons (gUn negD (gC (.int 1))) gNil)))))) (gCons (gTup (gCons (gC (.int 1)) (gCons (gUn negD (gC (.int 1))) (gCons (gC (.int 1)) (gCons (gC (.int 1)) (gCons (gC (.int 0)) gNil)))))) (gCons (gTup (gCons (gC (.bl false)) (gCons (gC (.int 0)) (gCons (gC (.int 0)) (gCons (gC (.int 0)) (gCons (gC (.int 0)) gNil)))))) (gCons (gTup (gCons (gC .non) (gCons (gC (.int 0)) (gCons (gC (.int 0)) (gCons (gC (.int 0)) (gCons (gC (.int 0)) gNil)))))) gNil))))))))
    (gSeq (gFor (gRng1 (gCons (gC (.int 2)) gNil)) (ggName 9) (gSeq (gFz 8 (gSet 11 (gCall sp__law_pick W R (gCons (gVar 0) (gCons (gVar 8) gNil)))))
    (gIfS (gNotT (gTru (gCall sp__law_same W R (gCons (gCall sp__law_sided W R (gCons (gVar 2) (gCons (gVar 11) gNil))) (gCons (gTup (gCons (gC (.str "NoSuchSide")) (gCons (gVar 11) gNil))) gNil))))) (gRet (gC (.bl false))) gSkip)))
    (gRet (gC (.bl true))))))))))))))
def g_law (W : WD) (R : Er → Prop) : GS :=
  (gSeq (gSet 2 (gIf (gB (gBin (eqX eqsO W) (gCall sp__law_draw W R (gCons (gVar 1) (gCons (gC (.int 6)) gNil))) (gC (.int 0)))) (gCall sp__law_regular W R (gCons (gVar 1) gNil)) (gCall sp__law_world W R (gCons (gVar 1) (gCons (gBin gtD (gCall sp__law_draw W R (gCons (gVar 1) (gCons (gC (.int 3)) gNil))) (gC (.int 0))) gNil)))))
    (gSeq (gSetT [3, 4, 5] (gVar 2))
    (gSeq (gSetT [6, 7] (gTup (gCons (gCall sp__law_sides W R (gCons (gVar 3) (gCons (gVar 4) gNil))) (gCons (gCall sp__law_floor W R (gCons (gVar 1) (gCons (gVar 2) gNil))) gNil))))
    (gSeq (gIfS (gNotT (gTru (gCall sp__law_is_floor_right W R (gCons (gVar 1) (gCons (gVar 2) (gCons (gVar 7) gNil)))))) (gRet (gC (.bl false))) gSkip)
    (gSeq (gSet 8 (gFrz (gLc (gIter (gVar 6)) (ggName 10) gYes (gCall sp__law_sided W (fun _ => False) (gCons (gVar 7) (gCons (gVar 10) gNil))) [10])))
    (gSeq (gFor (gEnum (gCons (gVar 6) gNil)) (ggTup [9, 10]) (gIfS (gOrT (gNotT (gTru (gCall sp__law_same W R (gCons (gBin (eqX eqsO W) (gBin ixD (gVar 8) (gVar 9)) (gCall sp__law_floor W R (gCons (gVar 1) (gCons (gTup (gCons (gVar 3) (gCons (gVar 4) (gCons (gVar 10) gNil)))) gNil)))) (gCons (gC (.bl true)) gNil))))) (gNotT (gTru (gCall sp__law_same W R (gCons (gFld fldO "side" (gBin ixD (gVar 8) (gVar 9))) (gCons (gVar 10) gNil)))))) (gRet (gC (.bl false))) gSkip))
    (gSeq (gFor (gRng1 (gCons (gC (.int 4)) gNil)) (ggName 11) (gIfS (gNotT (gTru (gCall sp__law_are_turns_right W R (gCons (gVar 1) (gCons (gVar 6) (gCons (gVar 8) (gCons (gCall sp__law_draw W R (gCons (gVar 1) (gCons (gBlt lenD (gCons (gVar 6) gNil)) gNil))) (gCons (gCall sp__law_draw W R (gCons (gVar 1) (gCons (gBlt lenD (gCons (gVar 6) gNil)) gNil))) gNil)))))))) (gRet (gC (.bl false))) gSkip))
    (gSeq (gSet 12 (gTup (gCons (gC (.int 1)) (gCons (gC (.int 0)) (gCons (gUn negD (gC (.int 1))) (gCons (gC (.int 0)) (gCons (gC (.int 0)) gNil)))))))
    (gSeq (gSet 13 (gCall sp__law_floor W R (gCons (gVar 1) (gCons (gCall sp__law_moved W R (gCons (gVar 2) (gCons (gCall sp__law_pick W R (gCons (gVar 1) (gCons (gTup (gCons (gVar 12) (gCons (gUn revD (gVar 12)) (gCons (gTup (gCons (gC (.int 0)) (gCons (gBin powD (gC (.int 10)) (gC (.int 20))) (gCons (gC (.int 0)) (gCons (gUn negD (gBin powD (gC (.int 10)) (gC (.int 20)))) (gCons (gC (.int 0)) gNil)))))) gNil)))) gNil))) gNil))) gNil))))
    (gSeq (gIfS (gNotT (gTru (gCall sp__law_same W R (gCons (gCall sp_turns_between W R (gCons (gVar 7) (gCons (gVar 13) gNil))) (gCons (gC .non) gNil))))) (gRet (gC (.bl false))) gSkip)
    (gSeq (gIfS (gNotT (gTru (gCall sp__law_same W R (gCons (gCall sp_turns_hold W R (gCons (gVar 7) (gCons (gVar 13) (gCons (gCall sp__law_pick W R (gCons (gVar 1) (gCons (gTup (gCons (gTup gNil) (gCons (gTup (gCons (gC (.int 0)) gNil)) (gCons (gC .non) (gCons (gTup (gCons (gC (.int 1)) (gCons (gC (.int 2)) gNil))) (gCons (gFrz (gLst gNil)) gNil)))))) gNil))) gNil)))) (gCons (gC (.bl false)) gNil))))) (gRet (gC (.bl false))) gSkip)
    (gRet (gIf (gB (gBin (eqX eqsO W) (gBlt lenD (gCons (gVar 6) gNil)) (gC (.int 10)))) (gCall sp__law_is_ring W R (gCons (gVar 1) (gCons (gVar 7) gNil))) (gC (.bl true)))))))))))))))
local macro_rules | `(tactic| decreasing_trivial_pre_omega) => `(tactic| ((first | refine fld_k ?_ | refine fld_s ?_ | refine Exists.intro _ (And.intro rfl ?_) | refine And.intro rfl ?_ | refine And.intro (of_decide_eq_true rfl) ?_ | refine Exists.intro _ (Exists.intro _ (And.intro rfl (And.intro rfl ?_))) | refine Exists.intro _ (Exists.intro _ (Exists.intro _ (And.intro rfl (And.intro rfl (And.intro rfl ?_))))) | refine Exists.intro _ (Exists.intro _ (And.intro rfl ?_)) | refine Exists.intro _ (Exists.intro _ (Exists.intro _ (And.intro rfl ?_))) | refine Exists.intro _ (Exists.intro _ (Exists.intro _ (Exists.intro _ (And.intro rfl ?_))))) <;> (conv => whnf)))
theorem len_is_integer : ∀ W ds Q R, sp_is_integer W ds Q R → ds.length = 1 := by
  rintro W ds Q R ⟨x, rfl, _⟩
  rfl
theorem law_is_integer : ∀ W ds Q R, sp_is_integer W ds Q R → g_is_integer W R (endsD Q) (startD 1 ds) := by
  rintro W ds Q R ⟨x, rfl, h, q⟩
  simp [g_is_integer, startD, isiX, h, show knownT "int" = true by decide, show knownT "bool" = true by decide]
  cases x <;> simp_all [tyD, isiB, isTb, isI]
theorem len_normal : ∀ W ds Q R, sp_normal W ds Q R → ds.length = 3 := by
  rintro W ds Q R ⟨a, b, d, rfl, _⟩
  rfl
theorem law_normal : ∀ W ds Q R, sp_normal W ds Q R → g_normal W R (endsD Q) (startD 4 ds) := by
  rintro W ds Q R ⟨a, b, d, rfl, hd, h0, q⟩
  have hn := cdv_ne (a := a) (b := b) h0
  have hs : (cdv a b d).natAbs.log2 < 9000 := Nat.lt_of_le_of_lt (cdv_sz (a := a) (b := b) hd h0).log (by decide)
  have pp : ∀ i, DivPl i (cdv a b d) := fun i => .inl hs
  unfold red cdv at q
  unfold cdv at hn pp
  by_cases h : d < 0
  · rw [if_pos h] at q hn pp
    simp [g_normal, startD, endsD, gcdD, h]
    exact ⟨by simpa using hn, by simpa using pp a, by simpa using hn, by simpa using pp b, by simpa using hn, by simpa using pp d, by simpa using q⟩
  · rw [if_neg h] at q hn pp
    simp [g_normal, startD, endsD, gcdD, h]
    exact ⟨by simpa using hn, by simpa using pp a, by simpa using hn, by simpa using pp b, by simpa using hn, by simpa using pp d, by simpa using q⟩
theorem len_negative : ∀ W ds Q R, sp_negative W ds Q R → ds.length = 1 := by
  rintro W ds Q R ⟨a, b, m, rfl, _⟩
  rfl
theorem law_negative : ∀ W ds Q R, sp_negative W ds Q R → g_negative W R (endsD Q) (startD 1 ds) := by
  rintro W ds Q R ⟨a, b, m, rfl, q⟩
  simp [g_negative, startD, q]
theorem len_times_g : ∀ W ds Q R, sp_times_g W ds Q R → ds.length = 1 := by
  rintro W ds Q R ⟨a, b, m, rfl, _⟩
  rfl
theorem law_times_g : ∀ W ds Q R, sp_times_g W ds Q R → g_times_g W R (endsD Q) (startD 1 ds) := by
  rintro W ds Q R ⟨a, b, m, rfl, q⟩
  simp [g_times_g, startD, q]
theorem len_is_whole_number : ∀ W ds Q R, sp_is_whole_number W ds Q R → ds.length = 1 := by
  rintro W ds Q R ⟨a, b, m, rfl, _⟩
  rfl
theorem law_is_whole_number : ∀ W ds Q R, sp_is_whole_number W ds Q R → g_is_whole_number W R (endsD Q) (startD 1 ds) := by
  rintro W ds Q R ⟨a, b, m, rfl, h, q⟩
  have h0 : 0 < m := by omega
  simp [g_is_whole_number, startD, h0]
  unfold wholeB at q
  split <;> simp_all
theorem len_Floor__eq : ∀ W ds Q R, sp_Floor__eq W ds Q R → ds.length = 2 := by
  rintro W ds Q R ⟨k, s, k', s', rfl, _⟩
  rfl
theorem ty_Floor__eq : ∀ W x y Q R, sp_Floor__eq W [x, y] Q R → tyX knownO y = true := by
  rintro W x y Q R ⟨k, s, k', s', e, _⟩
  cases e
  exact knownO_Floor
theorem law_Floor__eq : ∀ W ds Q R, sp_Floor__eq W ds Q R → g_Floor__eq W R (endsD Q) (startD 2 ds) := by
  rintro W ds Q R ⟨k, s, k', s', rfl, hk, hk', q⟩
  unfold g_Floor__eq
  conv => whnf
  refine ⟨knownO_Floor, ?_⟩
  ((conv => whnf); repeat decreasing_trivial_pre_omega)
  refine ⟨hk, hk', ?_⟩
  cases he : eqb (.tup k) k'
  · rw [he] at q
    exact q
  · rw [he, if_pos rfl] at q
    conv => whnf
    refine fld_s ?_
    conv => whnf
    refine fld_s ?_
    refine ⟨pl_tD 63 s, pl_tD 63 s', ?_⟩
    rw [eqb_tD]
    exact q
theorem len_is_number : ∀ W ds Q R, sp_is_number W ds Q R → ds.length = 1 := by
  rintro W ds Q R ⟨x, rfl, _⟩
  rfl
theorem law_is_number : ∀ W ds Q R, sp_is_number W ds Q R → g_is_number W R (endsD Q) (startD 1 ds) := by
  rintro W ds Q R ⟨x, rfl, h, q⟩
  simp [g_is_number, startD, isiX, h.1, show knownT "tuple" = true by decide]
  cases x with
  | tup xs =>
    have hx := h.2 xs rfl
    simp [isiB, tyD, isTb, lenD]
    by_cases hl : xs.length = 3
    · obtain ⟨a, b, c, rfl⟩ := len3 hl
      simp at hx
      simp
      refine ⟨a, rfl, hx.1, ?_⟩
      cases h1 : isI a
      · simpa [isNum, h1] using q
      · simp
        refine ⟨b, rfl, hx.2.1, ?_⟩
        cases h2 : isI b
        · simpa [isNum, h1, h2] using q
        · simp
          refine ⟨c, rfl, hx.2.2, ?_⟩
          cases h3 : isI c
          · simpa [isNum, h1, h2, h3] using q
          · obtain ⟨i, rfl⟩ := isI_n h3
            have en : isNum (.tup [a, b, .int i]) = decide (1 ≤ i) := by
              show (isI a && isI b && true && decide (1 ≤ i)) = _
              rw [h1, h2]
              rfl
            rw [en] at q
            simpa [geD, isI] using q
    · have hl2 : ¬ ((xs.length : Int) = 3) := by omega
      rw [num_len hl] at q
      simpa [hl, hl2] using q
  | _ => simpa [isiB, tyD, isTb, isNum] using q
theorem len_added : ∀ W ds Q R, sp_added W ds Q R → ds.length = 2 := by
  rintro W ds Q R ⟨n, m, a, b, d, c, e, f, rfl, _⟩
  rfl
theorem law_added : ∀ W ds Q R, sp_added W ds Q R → g_added W R (endsD Q) (startD 3 ds) := by
  rintro W ds Q R ⟨n, m, a, b, d, c, e, f, rfl, h, k, l, sd, sf, q⟩
  obtain ⟨o1, o2, o3, o4, o5, _⟩ := h.ok k (by omega)
  have z4 := (add_sz h k).2.2.2
  simp [g_added, startD, o1, o2, o3, o4, o5]
  exact ⟨_, _, _, rfl, (sd.mul sf).mono (by decide), by omega, q⟩
theorem len_is_direction : ∀ W ds Q R, sp_is_direction W ds Q R → ds.length = 1 := by
  rintro W ds Q R ⟨x, rfl, _⟩
  rfl
theorem law_is_direction : ∀ W ds Q R, sp_is_direction W ds Q R → g_is_direction W R (endsD Q) (startD 1 ds) := by
  rintro W ds Q R ⟨x, rfl, h, q⟩
  simp [g_is_direction, startD]
  refine ⟨x, rfl, h, ?_⟩
  cases x <;> simp_all [isI, truthD, isDir, leD]
  split <;> simp_all
theorem len_whole_directions : ∀ W ds Q R, sp_whole_directions W ds Q R → ds.length = 1 := by
  rintro W ds Q R ⟨a, b, d, rfl, _⟩
  rfl
theorem law_whole_directions : ∀ W ds Q R, sp_whole_directions W ds Q R → g_whole_directions W R (endsD Q) (startD 2 ds) := by
  rintro W ds Q R ⟨a, b, d, rfl, h, q⟩
  unfold g_whole_directions
  conv => whnf
  refine ⟨5, rfl, by decide, by decide, ?_⟩
  refine lc_fn (whB a b d) dirs5 (by show 1 < 2; decide) (fun r hr Qd qd => ?_) (by decide) q
  obtain ⟨r0, r4⟩ := dirs_in hr
  refine ix_key r0 r4 ?_
  obtain ⟨x, y, z, e, n, e1, e2⟩ := h.fr r0 r4
  rw [e]
  ((conv => whnf); repeat decreasing_trivial_pre_omega)
  refine ⟨n.2.2.2, ?_⟩
  rw [wh_red n.2.2.2 h.d1 e1 e2]
  exact qd
theorem len__law_pick : ∀ W ds Q R, sp__law_pick W ds Q R → ds.length = 2 := by
  rintro W ds Q R ⟨d, l, xs, _, rfl | rfl, _⟩ <;> rfl
theorem law__law_pick : ∀ W ds Q R, sp__law_pick W ds Q R → g__law_pick W R (endsD Q) (startD 2 ds) := by
  rintro W ds Q R ⟨d, l, xs, rfl, rfl | rfl, h1, h2, q⟩
  all_goals
    simp [g__law_pick, startD, lenD]
    refine ⟨d, l, _, rfl, rfl, by omega, by exact_mod_cast h2, fun r hr0 hr1 => ?_⟩
    have hr : r.toNat < xs.length := by omega
    refine ⟨xs[r.toNat], ?_, q _ (List.getElem_mem hr)⟩
    simp [atI, ixN, hr0, hr1, hr]
theorem len_taken : ∀ W ds Q R, sp_taken W ds Q R → ds.length = 2 := by
  rintro W ds Q R ⟨n, m, a, b, d, c, e, f, rfl, _⟩
  rfl
theorem law_taken : ∀ W ds Q R, sp_taken W ds Q R → g_taken W R (endsD Q) (startD 2 ds) := by
  rintro W ds Q R ⟨n, m, a, b, d, c, e, f, rfl, h, k, l, sd, sf, q⟩
  simp [g_taken, startD]
  exact ⟨c, e, f, rfl, n, m, a, b, d, -c, -e, f, rfl, h, k.neg, l, sd, sf, q⟩
theorem len_sides_of : ∀ W ds Q R, sp_sides_of W ds Q R → ds.length = 1 := by
  rintro W ds Q R ⟨a, b, d, rfl, _⟩
  rfl
theorem law_sides_of : ∀ W ds Q R, sp_sides_of W ds Q R → g_sides_of W R (endsD Q) (startD 8 ds) := by
  rintro W ds Q R ⟨a, b, d, rfl, h, q⟩
  unfold g_sides_of
  conv => whnf
  refine ⟨a, b, d, rfl, h, ?_⟩
  have hw := whL_mem (d := d) h.r
  generalize whL a b d = wl at *
  simp only [WL, List.mem_cons, List.not_mem_nil, or_false] at hw
  rcases hw with rfl | rfl | rfl | rfl | rfl | rfl | rfl
  · ((conv => whnf); repeat decreasing_trivial_pre_omega)
    exact q
  · ((conv => whnf); repeat decreasing_trivial_pre_omega)
    exact q
  · ((conv => whnf); repeat decreasing_trivial_pre_omega)
    exact q
  · ((conv => whnf); repeat decreasing_trivial_pre_omega)
    exact q
  · ((conv => whnf); repeat decreasing_trivial_pre_omega)
    exact q
  · ((conv => whnf); repeat decreasing_trivial_pre_omega)
    exact q
  · ((conv => whnf); repeat decreasing_trivial_pre_omega)
    refine forL_in ?_
    refine forG_rng (S := fun n σ => ∃ v3 v4 v5 v6 v7, σ = [.d (keyD a b d), .d (.tup (dirs5.map .int)), .ol ((acc10 n).map tD), v3, v4, v5, v6, v7]) 0 5 _ ⟨_, _, _, _, _, rfl⟩ ?_ ?_
    · rintro σ ⟨v3, v4, v5, v6, v7, rfl⟩
      conv => whnf
      refine sort_is acc10_five acc10_perm ten5_srt ?_
      exact q
    · rintro j hj σ ⟨v3, v4, v5, v6, v7, rfl⟩ E' hrt hnx hct
      match j, hj with
      | 0, _ => ((conv => whnf); repeat decreasing_trivial_pre_omega); exact hnx _ ⟨_, _, _, _, _, rfl⟩
      | 1, _ => ((conv => whnf); repeat decreasing_trivial_pre_omega); exact hnx _ ⟨_, _, _, _, _, rfl⟩
      | 2, _ => ((conv => whnf); repeat decreasing_trivial_pre_omega); exact hnx _ ⟨_, _, _, _, _, rfl⟩
      | 3, _ => ((conv => whnf); repeat decreasing_trivial_pre_omega); exact hnx _ ⟨_, _, _, _, _, rfl⟩
      | 4, _ => ((conv => whnf); repeat decreasing_trivial_pre_omega); exact hnx _ ⟨_, _, _, _, _, rfl⟩
theorem len_whole_keys : ∀ W ds Q R, sp_whole_keys W ds Q R → ds.length = 1 := by
  rintro W ds Q R ⟨s, a, b, d, rfl, _⟩
  rfl
theorem law_whole_keys : ∀ W ds Q R, sp_whole_keys W ds Q R → g_whole_keys W R (endsD Q) (startD 1 ds) := by
  rintro W ds Q R ⟨s, a, b, d, rfl, h, q⟩
  unfold g_whole_keys
  conv => whnf
  refine fld_k ?_
  exact ⟨a, b, d, rfl, h, q⟩
theorem len_keys_from : ∀ W ds Q R, sp_keys_from W ds Q R → ds.length = 2 := by
  rintro W ds Q R ⟨x, y, a, b, d, rfl, _⟩
  rfl
theorem law_keys_from : ∀ W ds Q R, sp_keys_from W ds Q R → g_keys_from W R (endsD Q) (startD 4 ds) := by
  rintro W ds Q R ⟨x, y, a, b, d, rfl, h, ⟨u, v, w, rfl, hx, e1, e2⟩, ⟨u', v', w', rfl, hy, f1, f2⟩, q⟩
  have hd := h.d1
  obtain ⟨k0, k1, k2⟩ := h.r
  have nn : ∀ {x y z : Int}, Num 4000 x y z → Num 4001 (-y) (-(x + y)) z := fun n => ⟨n.2.1.neg.mono (by decide), (n.1.add n.2.1).neg, n.2.2.1.mono (by decide), n.2.2.2⟩
  unfold g_keys_from
  ((conv => whnf); repeat decreasing_trivial_pre_omega)
  refine ⟨hx.2.2.1.mono (by decide), by have := hx.2.2.2; omega, ?_⟩
  rw [Fr.norm hx.2.2.2 hd e1 e2]
  ((conv => whnf); repeat decreasing_trivial_pre_omega)
  refine ⟨hy.2.2.1.mono (by decide), by have := hy.2.2.2; omega, ?_⟩
  rw [Fr.norm hy.2.2.2 hd f1 f2]
  obtain ⟨x0, y0, z0, g0, n0, p0, q0⟩ := h.fr (r := 0) (by decide) (by decide)
  obtain ⟨x1, y1, z1, g1, n1, p1, q1⟩ := h.fr (r := 1) (by decide) (by decide)
  obtain ⟨x2, y2, z2, g2, n2, p2, q2⟩ := h.fr (r := 2) (by decide) (by decide)
  obtain ⟨x3, y3, z3, g3, n3, p3, q3⟩ := h.fr (r := 3) (by decide) (by decide)
  rw [g0, g1]
  ((conv => whnf); repeat decreasing_trivial_pre_omega)
  refine forL_in ?_
  ((conv => whnf); repeat decreasing_trivial_pre_omega)
  refine ⟨4001, 4000, _, _, _, _, _, _, rfl, nn n1, n0, by decide, n1.2.2.1.mono (by decide), n0.2.2.1.mono (by decide), ?_⟩
  rw [key_next k0.1 k0.2 p0 q0 p1 q1 n1.2.2.2 n0.2.2.2 hd]
  rw [g2]
  ((conv => whnf); repeat decreasing_trivial_pre_omega)
  refine ⟨4001, 4000, _, _, _, _, _, _, rfl, nn n2, n1, by decide, n2.2.2.1.mono (by decide), n1.2.2.1.mono (by decide), ?_⟩
  rw [key_next k1.1 k1.2 p1 q1 p2 q2 n2.2.2.2 n1.2.2.2 hd]
  rw [g3]
  ((conv => whnf); repeat decreasing_trivial_pre_omega)
  refine ⟨4001, 4000, _, _, _, _, _, _, rfl, nn n3, n2, by decide, n3.2.2.1.mono (by decide), n2.2.2.1.mono (by decide), ?_⟩
  rw [key_next k2.1 k2.2 p2 q2 p3 q3 n3.2.2.2 n2.2.2.2 hd]
  ((conv => whnf); repeat decreasing_trivial_pre_omega)
  have e : keyD a b d = .tup [tri x0 y0 z0, tri x1 y1 z1, tri x2 y2 z2, tri x3 y3 z3, red (a 4) (b 4) d] := by
    unfold keyD
    rw [g0, g1, g2, g3]
  rw [e] at q
  exact q
theorem len_is_side : ∀ W ds Q R, sp_is_side W ds Q R → ds.length = 2 := by
  rintro W ds Q R ⟨x, a, b, d, rfl, _⟩
  rfl
theorem law_is_side : ∀ W ds Q R, sp_is_side W ds Q R → g_is_side W R (endsD Q) (startD 3 ds) := by
  rintro W ds Q R ⟨x, a, b, d, rfl, h, hx, q⟩
  unfold g_is_side
  conv => whnf
  refine ⟨knTup, hx.1, ?_⟩
  cases x with
  | tup xs =>
    have hy := hx.2 xs rfl
    have e : isSide (whL a b d) (.tup xs) = (decide (xs.length = 5) && (xs.all isI) && inb (.tup xs) ((sidesL (whL a b d)).map tD)) := rfl
    rw [e] at q
    conv => whnf
    refine ⟨rfl, rfl, ?_⟩
    conv => whnf
    have e5 : eqb (.int (xs.length : Nat)) (.int 5) = decide (xs.length = 5) := by
      rw [eqb_int]
      exact decide_eq_decide.mpr (by omega)
    rw [e5]
    by_cases hl : xs.length = 5
    · rw [decide_eq_true hl] at q ⊢
      conv => whnf
      refine all_lcP _ isi_hs (by show 2 < 3; decide) xs [] hy (by simp [hl]) ?_
      rw [List.nil_append]
      refine ⟨_, bls_map _ _, ?_⟩
      have ea : (xs.map isI).all id = xs.all isI := by rw [List.all_map]; rfl
      conv => whnf
      rw [ea]
      cases ha : xs.all isI
      · rw [ha] at q
        exact q
      · rw [ha] at q
        conv => whnf
        refine ⟨a, b, d, rfl, h, ?_⟩
        have el := tup_tD ha
        rw [el] at q ⊢
        refine ⟨pl_tD 63 _, (pl_tDs 62 _).1, ?_⟩
        exact q
    · rw [decide_eq_false hl] at q ⊢
      exact q
  | _ => exact q
theorem len_Floor : ∀ W ds Q R, sp_Floor W ds Q R → ds.length = 3 := by
  rintro W ds Q R ⟨x, y, s, a, b, d, rfl, _⟩
  rfl
theorem law_Floor : ∀ W ds Q R x, sp_Floor W ds Q R → g_Floor W R (endsI x "Floor" Q) (startI 6 x "Floor" ds) := by
  rintro W ds Q R z ⟨x, y, s, a, b, d, rfl, h, hx, hy, hs, q⟩
  obtain ⟨u, v, w, rfl, nx, e1, e2⟩ := id hx
  obtain ⟨u', v', w', rfl, ny, f1, f2⟩ := id hy
  unfold g_Floor
  ((conv => whnf); repeat decreasing_trivial_pre_omega)
  refine forL_in ?_
  ((conv => whnf); repeat decreasing_trivial_pre_omega)
  refine ⟨tyk1_tri .., ?_⟩
  rw [num_tri nx.2.2.2]
  ((conv => whnf); repeat decreasing_trivial_pre_omega)
  refine ⟨tyk1_tri .., ?_⟩
  rw [num_tri ny.2.2.2]
  ((conv => whnf); repeat decreasing_trivial_pre_omega)
  refine ⟨_, _, a, b, d, rfl, h, hx, hy, ?_⟩
  conv => whnf
  refine ⟨_, a, b, d, rfl, h, tyk1_tD s, ?_⟩
  rw [isSide_yes (whL_mem h.r) hs]
  conv => whnf
  refine ⟨_, _, _, rfl, fldO_Floor_all_keys, show 0 < 1000 by decide, ?_⟩
  conv => whnf
  refine ⟨_, _, _, rfl, fldO_Floor_side, show 1 < 1000 by decide, ?_⟩
  conv => whnf
  refine ⟨_, rfl, ?_⟩
  have e : putFD "side" (tD s) (putFD "all_keys" (keyD a b d) []) = ([("all_keys", keyD a b d), ("side", tD s)] : List (Str × D)) := by
    simp [putFD]
    decide +kernel
  rw [e]
  exact q
theorem len__law_same : ∀ W ds Q R, sp__law_same W ds Q R → ds.length = 2 := by
  rintro W ds Q R (⟨x, rfl, _⟩ | ⟨rfl, _⟩) <;> rfl
theorem law__law_same : ∀ W ds Q R, sp__law_same W ds Q R → g__law_same W R (endsD Q) (startD 2 ds) := by
  rintro W ds Q R (⟨x, rfl, h, q⟩ | ⟨rfl, q⟩)
  · simp [g__law_same, startD, h.1, h.2.1, h.2.2.1, h.len, q]
  · have h := rok_b true
    have h' := rok_b false
    simp [g__law_same, startD, h.1, h.2.1, h.2.2.1, h.len, h'.1, h'.2.1, h'.2.2.1, h'.len]
    rw [decide_eq_false (by decide +kernel)]
    exact q
theorem FlD.len {x : D} {a b : Int → Int} {d : Int} {s : List Int} (h : FlD x a b d s) : s.length = 5 := sidesL_five _ (whL_mem h.2.1.r) s h.2.2
theorem len_changed_side : ∀ W ds Q R, sp_changed_side W ds Q R → ds.length = 2 := by
  rintro W ds Q R ⟨s, r, rfl, _⟩
  rfl
theorem law_changed_side : ∀ W ds Q R, sp_changed_side W ds Q R → g_changed_side W R (endsD Q) (startD 4 ds) := by
  rintro W ds Q R ⟨s, r, rfl, hl, r0, r4, q⟩
  obtain ⟨a, b, c, d, e, rfl⟩ := five_list hl
  unfold g_changed_side
  rcases five_of r0 r4 with rfl | rfl | rfl | rfl | rfl
  all_goals
    ((conv => whnf); repeat decreasing_trivial_pre_omega)
    exact q
theorem len__law_changed : ∀ W ds Q R, sp__law_changed W ds Q R → ds.length = 2 := len_changed_side
theorem law__law_changed : ∀ W ds Q R, sp__law_changed W ds Q R → g__law_changed W R (endsD Q) (startD 4 ds) := law_changed_side
theorem len_with_keys : ∀ W ds Q R, sp_with_keys W ds Q R → ds.length = 2 := by
  rintro W ds Q R ⟨x, t, a, b, d, s, rfl, _⟩
  rfl
theorem law_with_keys : ∀ W ds Q R, sp_with_keys W ds Q R → g_with_keys W R (endsD Q) (startD 2 ds) := by
  rintro W ds Q R ⟨x, t, a, b, d, s, rfl, ⟨rfl, h, hs⟩, ht, q⟩
  unfold g_with_keys
  ((conv => whnf); repeat decreasing_trivial_pre_omega)
  exact ⟨_, _, t, a, b, d, rfl, h, h.fr (by decide) (by decide), h.fr (by decide) (by decide), ht, q⟩
theorem len_worm_directions : ∀ W ds Q R, sp_worm_directions W ds Q R → ds.length = 1 := by
  rintro W ds Q R ⟨x, a, b, d, s, rfl, _⟩
  rfl
theorem law_worm_directions : ∀ W ds Q R, sp_worm_directions W ds Q R → g_worm_directions W R (endsD Q) (startD 3 ds) := by
  rintro W ds Q R ⟨x, a, b, d, s, rfl, hf, q⟩
  have hl := hf.len
  obtain ⟨rfl, h, hs⟩ := hf
  unfold g_worm_directions
  conv => whnf
  refine fld_k ?_
  refine ⟨a, b, d, rfl, h, ?_⟩
  conv => whnf
  refine ⟨s, a, b, d, rfl, h, ?_⟩
  refine lc_fn (fun r => decide (chg s r ∈ sidesL (whL a b d))) (whL a b d) (by show 2 < 3; decide) (fun r hr Qd qd => ?_) ?_ q
  · obtain ⟨r0, r4⟩ := whL_dir hr
    conv => whnf
    refine fld_s ?_
    refine ⟨s, r, rfl, hl, r0, r4, ?_⟩
    conv => whnf
    refine ⟨pl_tD 63 _, (pl_tDs 62 _).1, ?_⟩
    conv => whnf
    rw [inb_tD]
    exact qd
  · exact Nat.le_trans (List.length_filter_le _ _) (by decide)
theorem len_sides_beside : ∀ W ds Q R, sp_sides_beside W ds Q R → ds.length = 1 := by
  rintro W ds Q R ⟨x, a, b, d, s, rfl, _⟩
  rfl
theorem worms_dir {a b : Int → Int} {d r : Int} {s : List Int} (h : r ∈ worms (whL a b d) s) : (0 ≤ r ∧ r ≤ 4) ∧ chg s r ∈ sidesL (whL a b d) := by
  obtain ⟨h1, h2⟩ := List.mem_filter.mp h
  exact ⟨whL_dir h1, of_decide_eq_true h2⟩
theorem worms_len (a b : Int → Int) (d : Int) (s : List Int) : (worms (whL a b d) s).length ≤ 5 := Nat.le_trans (List.length_filter_le _ _) (List.length_filter_le _ _)
theorem law_sides_beside : ∀ W ds Q R, sp_sides_beside W ds Q R → g_sides_beside W R (endsD Q) (startD 2 ds) := by
  rintro W ds Q R ⟨x, a, b, d, s, rfl, hf, q⟩
  have hl := hf.len
  obtain ⟨rfl, h, hs⟩ := id hf
  unfold g_sides_beside
  conv => whnf
  refine ⟨_, a, b, d, s, rfl, hf, ?_⟩
  refine lc_n (fun _ => true) (fun r => .tup [.int r, tD (chg s r)]) (worms (whL a b d) s) (by show 1 < 2; decide) (fun _ _ _ q => q) (fun r hr _ Qd qd => ?_) (Nat.le_trans (worms_len a b d s) (by decide)) ?_
  · obtain ⟨⟨r0, r4⟩, _⟩ := worms_dir hr
    conv => whnf
    refine fld_s ?_
    refine ⟨s, r, rfl, hl, r0, r4, ?_⟩
    ((conv => whnf); repeat decreasing_trivial_pre_omega)
    exact qd
  · rw [List.filter_eq_self.mpr fun _ _ => rfl]
    exact q
theorem len_turned : ∀ W ds Q R, sp_turned W ds Q R → ds.length = 2 := by
  rintro W ds Q R ⟨x, y, a, b, d, s, rfl, _⟩
  rfl
theorem isDir_yes {r : Int} (h0 : 0 ≤ r) (h4 : r ≤ 4) : isDir (.int r) = true := decide_eq_true ⟨h0, h4⟩
theorem law_turned : ∀ W ds Q R, sp_turned W ds Q R → g_turned W R (endsD Q) (startD 2 ds) := by
  rintro W ds Q R ⟨x, y, a, b, d, s, rfl, hf, hy, q1, q2⟩
  have hl := hf.len
  obtain ⟨rfl, h, hs⟩ := id hf
  unfold g_turned
  conv => whnf
  refine ⟨y, rfl, hy, ?_⟩
  cases hd : isDir y
  · exact q1 hd
  · obtain ⟨r, rfl, r0, r4⟩ := dir_n hd
    have q := q2 r rfl r0 r4
    conv => whnf
    refine ⟨_, a, b, d, s, rfl, hf, ?_⟩
    refine ⟨rfl, pl_il 63 _, ?_⟩
    conv => whnf
    rw [inb_i]
    by_cases hm : r ∈ worms (whL a b d) s
    · rw [if_pos hm] at q
      rw [decide_eq_true hm]
      conv => whnf
      refine fld_s ?_
      refine ⟨s, r, rfl, hl, r0, r4, ?_⟩
      exact ⟨_, _, a, b, d, s, rfl, hf, (worms_dir hm).2, q⟩
    · rw [if_neg hm] at q
      rw [decide_eq_false hm]
      exact q
theorem len_with_side : ∀ W ds Q R, sp_with_side W ds Q R → ds.length = 2 := by
  rintro W ds Q R ⟨x, y, a, b, d, s, rfl, _⟩
  rfl
theorem isSide_in {wl : List Int} {y : D} (h : isSide wl y = true) : ∃ t, y = tD t ∧ t ∈ sidesL wl := by
  unfold isSide at h
  rw [Bool.and_eq_true] at h
  obtain ⟨xs, rfl, hl, ha⟩ := five_xs h.1
  have e := tup_tD ha
  rw [e, inb_tD] at h
  exact ⟨_, e, of_decide_eq_true h.2⟩
theorem law_with_side : ∀ W ds Q R, sp_with_side W ds Q R → g_with_side W R (endsD Q) (startD 2 ds) := by
  rintro W ds Q R ⟨x, y, a, b, d, s, rfl, hf, hy, q1, q2⟩
  obtain ⟨rfl, h, hs⟩ := id hf
  unfold g_with_side
  conv => whnf
  refine fld_k ?_
  refine ⟨y, a, b, d, rfl, h, hy, ?_⟩
  cases hd : isSide (whL a b d) y
  · exact q1 hd
  · obtain ⟨t, rfl, ht⟩ := isSide_in hd
    exact ⟨_, _, a, b, d, s, rfl, hf, ht, q2 t rfl ht⟩
theorem len_unlike_signs : ∀ W ds Q R, sp_unlike_signs W ds Q R → ds.length = 2 := by
  rintro W ds Q R ⟨k, k', s, t, rfl, _⟩
  rfl
theorem law_unlike_signs : ∀ W ds Q R, sp_unlike_signs W ds Q R → g_unlike_signs W R (endsD Q) (startD 3 ds) := by
  rintro W ds Q R ⟨k, k', s, t, rfl, hs, ht, q⟩
  unfold g_unlike_signs
  conv => whnf
  refine ⟨5, rfl, by decide, by decide, ?_⟩
  refine lc_fn (fun j => decide (at0 s j ≠ at0 t j)) dirs5 (by show 2 < 3; decide) (fun r hr Qd qd => ?_) (by decide) q
  obtain ⟨r0, r4⟩ := dirs_in hr
  conv => whnf
  refine fld_s ?_
  refine at_five hs r0 r4 ?_
  conv => whnf
  refine fld_s ?_
  refine at_five ht r0 r4 ?_
  refine ⟨rfl, rfl, ?_⟩
  rw [eqb_int]
  simpa using qd
def stepOk (wl s t : List Int) : Bool := if s = t then true else match nxtT wl s t with
  | some r => decide (r ∈ worms wl s) && (decide (chg s r ∈ sidesL wl) && decide ((unl (chg s r) t).length + 1 = (unl s t).length))
  | none => false
theorem step_ok : ∀ wl ∈ WL, ∀ s ∈ sidesL wl, ∀ t ∈ sidesL wl, stepOk wl s t = true := by decide +kernel
theorem unl_self (s : List Int) : unl s s = [] := by
  unfold unl
  rw [List.filter_eq_nil_iff]
  simp
theorem nxt_in {wl s t : List Int} (hw : wl ∈ WL) (hs : s ∈ sidesL wl) (ht : t ∈ sidesL wl) (hn : s ≠ t) : ∃ r, nxtT wl s t = some r ∧ r ∈ worms wl s ∧ chg s r ∈ sidesL wl ∧ (unl (chg s r) t).length + 1 = (unl s t).length := by
  have h := step_ok wl hw s hs t ht
  unfold stepOk at h
  rw [if_neg hn] at h
  split at h
  · rename_i r e
    simp only [Bool.and_eq_true, decide_eq_true_eq] at h
    exact ⟨r, e, h⟩
  · cases h
theorem turnsB_next {wl s t : List Int} {r : Int} (hn : s ≠ t) (e : nxtT wl s t = some r) (h : (unl (chg s r) t).length + 1 = (unl s t).length) : turnsB wl (unl s t).length s t = r :: turnsB wl (unl (chg s r) t).length (chg s r) t := by
  rw [← h]
  conv => lhs; unfold turnsB
  rw [if_neg hn, e]
theorem len_turns_between : ∀ W ds Q R, sp_turns_between W ds Q R → ds.length = 2 := by
  rintro W ds Q R ⟨x, y, a, b, d, s, k, t, rfl, _⟩
  rfl
theorem law_turns_between : ∀ W ds Q R, sp_turns_between W ds Q R → g_turns_between W R (endsD Q) (startD 6 ds) := by
  rintro W ds Q R ⟨x, y, a, b, d, s, k, t, rfl, hf, rfl, hk, q1, q2⟩
  have hl := hf.len
  obtain ⟨rfl, h, hs⟩ := id hf
  have hw := whL_mem (d := d) h.r
  unfold g_turns_between
  conv => whnf
  refine fld_k ?_
  conv => whnf
  refine fld_k ?_
  refine ⟨rfl, hk, ?_⟩
  cases he : eqb (keyD a b d) k
  · exact q1 he
  · obtain ⟨hkk, ht, q⟩ := q2 he
    subst hkk
    conv => whnf
    refine ⟨by decide, ?_⟩
    conv => whnf
    refine ⟨fun m σ => ∃ (done : List Int) (s' : List Int) (v4 v5 : SV), s' ∈ sidesL (whL a b d) ∧ m = (unl s' t).length ∧ done.length + m ≤ 5 ∧ σ = [.d (flo (keyD a b d) s), .d (flo (keyD a b d) t), .ol (done.map .int), .d (flo (keyD a b d) s'), v4, v5] ∧ done ++ turnsB (whL a b d) m s' t = turnsB (whL a b d) (unl s t).length s t, ⟨_, [], s, _, _, hs, rfl, ?_, rfl, rfl⟩, ?_⟩
    · simp only [List.length_nil, Nat.zero_add]
      exact List.length_filter_le _ _
    · rintro m σ ⟨done, s', v4, v5, hs', rfl, hd, rfl, hq⟩
      have hf' : FlD (flo (keyD a b d) s') a b d s' := ⟨rfl, h, hs'⟩
      conv => whnf
      refine fld_s ?_
      conv => whnf
      refine fld_s ?_
      refine ⟨pl_tD 63 _, pl_tD 63 _, ?_⟩
      rw [eqb_tD]
      by_cases hn : s' = t
      · rw [decide_eq_true hn]
        conv => whnf
        subst hn
        rw [unl_self] at hq
        simp only [List.length_nil, turnsB, List.append_nil] at hq
        rw [hq]
        exact q
      · rw [decide_eq_false hn]
        obtain ⟨r, e1, e2, e3, e4⟩ := nxt_in hw hs' ht hn
        conv => whnf
        refine ⟨_, a, b, d, s', rfl, hf', ?_⟩
        refine lc_fn (fun r => decide (r ∈ unl s' t)) (worms (whL a b d) s') (by show 5 < 6; decide) (fun r hr Qd qd => ?_) (Nat.le_trans (worms_len a b d s') (by decide)) ?_
        · conv => whnf
          refine ⟨_, _, _, _, rfl, hf'.len, sidesL_five _ hw t ht, ?_⟩
          refine ⟨rfl, pl_il 63 _, ?_⟩
          conv => whnf
          rw [inb_i]
          exact qd
        · have e5 : ∃ l, (worms (whL a b d) s').filter (fun r => decide (r ∈ unl s' t)) = r :: l := by
            unfold nxtT at e1
            cases hx : (worms (whL a b d) s').filter (fun r => decide (r ∈ unl s' t)) with
            | nil => rw [hx] at e1; cases e1
            | cons z l => rw [hx] at e1; cases e1; exact ⟨l, rfl⟩
          obtain ⟨l, e5⟩ := e5
          rw [e5]
          refine ⟨.int r, by simp [atI, ixN], ?_⟩
          conv => whnf
          refine ⟨_, rfl, ?_⟩
          refine ⟨by rw [List.length_map]; exact Nat.lt_of_le_of_lt (by omega : done.length ≤ 5) (by decide), ?_⟩
          conv => whnf
          refine ⟨_, _, a, b, d, s', rfl, hf', rfl, ?_, ?_⟩
          · intro z
            rw [isDir_yes (worms_dir e2).1.1 (worms_dir e2).1.2] at z
            cases z
          · rintro _ ⟨⟩ _ _
            rw [if_pos e2]
            conv => whnf
            refine ⟨(unl (chg s' r) t).length, by omega, done ++ [r], chg s' r, .d (.int r), v5, e3, rfl, by simp; omega, ?_, ?_⟩
            · rw [List.map_append]
              rfl
            · rw [← hq, turnsB_next hn e1 e4]
              simp
theorem len_turns_hold : ∀ W ds Q R, sp_turns_hold W ds Q R → ds.length = 3 := by
  rintro W ds Q R ⟨x, y, z, a, b, d, s, k, t, rfl, _⟩
  rfl
theorem law_turns_hold : ∀ W ds Q R, sp_turns_hold W ds Q R → g_turns_hold W R (endsD Q) (startD 6 ds) := by
  rintro W ds Q R ⟨x, y, z, a, b, d, s, k, t, rfl, hf, rfl, hk, hz, hz100, q1, q2⟩
  have hl := hf.len
  obtain ⟨rfl, h, hs⟩ := id hf
  have hw := whL_mem (d := d) h.r
  unfold g_turns_hold
  conv => whnf
  refine fld_k ?_
  conv => whnf
  refine fld_k ?_
  refine ⟨rfl, hk, ?_⟩
  cases he : eqb (keyD a b d) k
  · exact q1 he
  · obtain ⟨hkk, ht, q⟩ := q2 he
    subst hkk
    have hl2 := sidesL_five _ hw t ht
    conv => whnf
    refine ⟨knTup, hz.1, ?_⟩
    cases z with
    | tup xs =>
      have hy := hz.2 xs rfl
      conv => whnf
      have hlen : xs.length ≤ sizeLine := Nat.le_trans (hz100 xs rfl) (by decide)
      · refine all_lcP (P := TyK) (c := isDir) _ (fun x Qd hx qd => ⟨x, rfl, hx, qd⟩) (by show 5 < 6; decide) xs [] hy (by simpa using hlen) ?_
        rw [List.nil_append]
        refine ⟨_, bls_map _ _, ?_⟩
        have ea : (xs.map isDir).all id = xs.all isDir := by rw [List.all_map]; rfl
        have eh : holdB (whL a b d) s t (.tup xs) = (xs.all isDir && (decide (xs.length = (unl s t).length) && walkB (whL a b d) t s (xs.map nOf))) := rfl
        rw [eh] at q
        conv => whnf
        rw [ea]
        cases had : xs.all isDir
        · rw [had] at q
          exact q
        · rw [had, Bool.true_and] at q
          conv => whnf
          refine ⟨_, _, _, _, rfl, hl, hl2, ?_⟩
          refine ⟨rfl, rfl, ?_⟩
          conv => whnf
          have e5 : eqb (.int (xs.length : Nat)) (.int (((unl s t).map D.int).length : Nat)) = decide (xs.length = (unl s t).length) := by
            rw [eqb_int, List.length_map]
            exact decide_eq_decide.mpr (by omega)
          rw [e5]
          by_cases hn : xs.length = (unl s t).length
          · rw [decide_eq_true hn, Bool.true_and] at q
            rw [decide_eq_true hn]
            conv => whnf
            refine forL_in ?_
            refine forG_inv (P := fun ys σ => (∀ y ∈ ys, isDir y = true) ∧ ∃ s' v4 v5, s' ∈ sidesL (whL a b d) ∧ σ = [.d (flo (keyD a b d) s), .d (flo (keyD a b d) t), .d (.tup xs), .d (flo (keyD a b d) s'), v4, v5] ∧ walkB (whL a b d) t s' (ys.map nOf) = walkB (whL a b d) t s (xs.map nOf)) ?_ ?_ _ _ ⟨List.all_eq_true.mp had, s, _, _, hs, rfl, rfl⟩
            · rintro σ ⟨_, s', v4, v5, hs', rfl, hq⟩
              conv => whnf
              refine fld_s ?_
              conv => whnf
              refine fld_s ?_
              refine ⟨pl_tD 63 _, pl_tD 63 _, ?_⟩
              rw [eqb_tD]
              rw [← hq] at q
              exact q
            · rintro y ys σ ⟨hys, s', v4, v5, hs', rfl, hq⟩ E' hrt hbk hnx hct
              obtain ⟨r, rfl, r0, r4⟩ := dir_n (hys y List.mem_cons_self)
              have hf' : FlD (flo (keyD a b d) s') a b d s' := ⟨rfl, h, hs'⟩
              have eq : walkB (whL a b d) t s' ((D.int r :: ys).map nOf) = if r ∈ worms (whL a b d) s' then walkB (whL a b d) t (chg s' r) (ys.map nOf) else false := rfl
              rw [eq] at hq
              conv => whnf
              refine ⟨_, a, b, d, s', rfl, hf', ?_⟩
              refine ⟨rfl, pl_il 63 _, ?_⟩
              conv => whnf
              rw [inb_i]
              by_cases hm : r ∈ worms (whL a b d) s'
              · rw [if_pos hm] at hq
                rw [decide_eq_true hm]
                conv => whnf
                refine ⟨_, _, a, b, d, s', rfl, hf', rfl, ?_, ?_⟩
                · intro z
                  rw [isDir_yes r0 r4] at z
                  cases z
                · rintro _ ⟨⟩ _ _
                  rw [if_pos hm]
                  exact hnx _ ⟨fun y m => hys y (List.mem_cons_of_mem _ m), chg s' r, _, _, (worms_dir hm).2, rfl, hq⟩
              · rw [if_neg hm] at hq
                rw [decide_eq_false hm]
                rw [← hq] at q
                conv => whnf
                show E'.rt _
                rw [hrt]
                exact q
          · rw [decide_eq_false hn, Bool.false_and] at q
            rw [decide_eq_false hn]
            exact q
    | _ => exact q
theorem len__law_number : ∀ W ds Q R, sp__law_number W ds Q R → ds.length = 1 := by
  rintro W ds Q R ⟨d, l, _, rfl, _⟩
  rfl
theorem law__law_number : ∀ W ds Q R, sp__law_number W ds Q R → g__law_number W R (endsD Q) (startD 5 ds) := by
  rintro W ds Q R ⟨d, l, rfl, rfl, q⟩
  unfold g__law_number
  conv => whnf
  refine ⟨_, _, _, rfl, rfl, by first | decide | omega, by first | decide | omega, fun w w0 w1 => ?_⟩
  conv => whnf
  by_cases hw : w < 6
  · rw [decide_eq_true hw]
    conv => whnf
    refine ⟨_, _, _, rfl, rfl, by first | decide | omega, by first | decide | omega, fun r r0 r1 => ?_⟩
    conv => whnf
    exact q _ ((Sz.small (by omega) (by omega)).mono (by decide))
  · rw [decide_eq_false hw]
    conv => whnf
    refine ⟨_, _, _, rfl, rfl, by first | decide | omega, by first | decide | omega, fun g g0 g1 => ?_⟩
    refine ⟨(Sz.small (i := 2) (by decide) (by decide)).ok (Sz.small (i := g) (by omega) (by omega)) (by decide), ?_⟩
    conv => whnf
    decreasing_trivial_pre_omega
    have key : ∀ (n : Nat) (s4 : SV), n ≤ 5 → forG (ggName 4) (gSet 2 (gBin addD (gBin mulD (gVar 2) (gC (.int 1000000))) (gCall spDraw (some (d, l)) R (ND.gCons (gVar 0) (ND.gCons (gC (.int 1000000)) ND.gNil))))) (intsFrom 0 n) { nx := gRet (gBin mulD (gVar 3) (gVar 2)) (endsD Q), rt := (endsD Q).rt, bk := (endsD Q).bk, ct := (endsD Q).ct } [.d (dkD d), .d (.int w), .d (.int 0), .d (.int (1 - 2 * g)), s4] := fun n s4 hn => by
      refine forG_rng (S := fun j σ => ∃ v s4, 0 ≤ v ∧ v < 10 ^ (6 * j) ∧ σ = [.d (dkD d), .d (.int w), .d (.int v), .d (.int (1 - 2 * g)), s4]) 0 n _ ⟨0, s4, by decide, by simp, rfl⟩ ?_ ?_
      · rintro σ ⟨v, s4, v0, v1, rfl⟩
        have hv : Sz 100 v := (ten_sz v0 v1).mono (by omega)
        have hg : Sz 20 (1 - 2 * g) := Sz.small (by omega) (by omega)
        conv => whnf
        exact ⟨hg.ok hv (by decide), q _ (hg.mul hv)⟩
      · rintro j hj σ ⟨v, s4, v0, v1, rfl⟩ E' hrt hnx hct
        conv => whnf
        refine ⟨(ten_sz v0 v1).ok (m := 20) (show (1000000 : Int).natAbs < 2 ^ 20 by decide) (by omega), ?_⟩
        conv => whnf
        refine ⟨_, _, _, rfl, rfl, by first | decide | omega, by first | decide | omega, fun r r0 r1 => ?_⟩
        refine hnx _ ⟨v * 1000000 + r, _, by omega, ?_, rfl⟩
        have e : (10 : Int) ^ (6 * (j + 1)) = 10 ^ (6 * j) * 1000000 := by
          rw [Nat.mul_add, Int.pow_add]
          rfl
        rw [e]
        omega
    decreasing_trivial_pre_omega; decreasing_trivial_pre_omega
    cases eqb (.int w) (.int 6)
    · ((conv => whnf); repeat decreasing_trivial_pre_omega)
      refine forL_in ?_
      exact key 2 _ (by decide)
    · ((conv => whnf); repeat decreasing_trivial_pre_omega)
      refine forL_in ?_
      exact key 5 _ (by decide)
theorem keys_of {a b : Int → Int} {Q : D → Prop} {x0 x1 x2 x3 x4 y0 y1 y2 y3 y4 : Int} (q : Q (keysP a b)) (e0 : x0 = a 0) (f0 : y0 = b 0) (e1 : x1 = a 1) (f1 : y1 = b 1) (e2 : x2 = a 2) (f2 : y2 = b 2) (e3 : x3 = a 3) (f3 : y3 = b 3) (e4 : x4 = a 4) (f4 : y4 = b 4) : Q (.tup [pr x0 y0, pr x1 y1, pr x2 y2, pr x3 y3, pr x4 y4]) := by
  subst e0 e1 e2 e3 e4 f0 f1 f2 f3 f4
  exact q
theorem len__law_keys : ∀ W ds Q R, sp__law_keys W ds Q R → ds.length = 3 := by
  rintro W ds Q R ⟨r, p, q, u, v, n, rfl, _⟩
  rfl
theorem law__law_keys : ∀ W ds Q R, sp__law_keys W ds Q R → g__law_keys W R (endsD Q) (startD 7 ds) := by
  rintro W ds Q R ⟨r, p, q, u, v, n, rfl, r0, r4, zp, zq, zu, zv, qk⟩
  obtain ⟨a, b, h, hp, hq, hu, hv, sa, sb⟩ := keys_ex r0 r4 zp zq zu zv
  have qq := qk a b h hp hq hu hv sa sb
  obtain ⟨x3, y3⟩ := h.k3
  obtain ⟨x4, y4⟩ := h.k4
  obtain ⟨⟨x0, y0⟩, ⟨x1, y1⟩, ⟨x2, y2⟩⟩ := h
  unfold g__law_keys
  rcases five_of r0 r4 with rfl | rfl | rfl | rfl | rfl
  · subst hp hq hu hv
    ((conv => whnf); repeat decreasing_trivial_pre_omega)
    refine forL_in ?_
    refine forG_rng (S := fun j σ => ∃ v4 v5 v6, σ = [.d (.int 0), .d (pr (a 0) (b 0)), .d (pr (a 1) (b 1)), .ol (match j with | 0 => [pr (a 0) (b 0), pr (a 1) (b 1), pr (a 0) (b 0), pr (a 0) (b 0), pr (a 0) (b 0)] | 1 => [pr (a 0) (b 0), pr (a 1) (b 1), pr (a 2) (b 2), pr (a 0) (b 0), pr (a 0) (b 0)] | 2 => [pr (a 0) (b 0), pr (a 1) (b 1), pr (a 2) (b 2), pr (a 3) (b 3), pr (a 0) (b 0)] | _ => [pr (a 0) (b 0), pr (a 1) (b 1), pr (a 2) (b 2), pr (a 3) (b 3), pr (a 4) (b 4)]), v4, v5, v6]) 0 3 _ ⟨_, _, _, rfl⟩ ?_ ?_
    · rintro σ ⟨v4, v5, v6, rfl⟩
      exact qq
    · rintro j hj σ ⟨v4, v5, v6, rfl⟩ E' hrt hnx hct
      match j, hj with
      | 0, _ =>
        ((conv => whnf); repeat decreasing_trivial_pre_omega)
        refine' hnx _ ⟨_, _, _, ?_⟩
        rotate_left 3
        rw [← x0, ← y0]
        rfl
      | 1, _ =>
        ((conv => whnf); repeat decreasing_trivial_pre_omega)
        refine' hnx _ ⟨_, _, _, ?_⟩
        rotate_left 3
        rw [← x1, ← y1]
        rfl
      | 2, _ =>
        ((conv => whnf); repeat decreasing_trivial_pre_omega)
        refine' hnx _ ⟨_, _, _, ?_⟩
        rotate_left 3
        rw [← x2, ← y2]
        rfl
  · subst hp hq hu hv
    ((conv => whnf); repeat decreasing_trivial_pre_omega)
    refine forL_in ?_
    refine forG_rng (S := fun j σ => ∃ v4 v5 v6, σ = [.d (.int 1), .d (pr (a 1) (b 1)), .d (pr (a 2) (b 2)), .ol (match j with | 0 => [pr (a 1) (b 1), pr (a 1) (b 1), pr (a 2) (b 2), pr (a 1) (b 1), pr (a 1) (b 1)] | 1 => [pr (a 1) (b 1), pr (a 1) (b 1), pr (a 2) (b 2), pr (a 3) (b 3), pr (a 1) (b 1)] | 2 => [pr (a 1) (b 1), pr (a 1) (b 1), pr (a 2) (b 2), pr (a 3) (b 3), pr (a 4) (b 4)] | _ => [pr (a 0) (b 0), pr (a 1) (b 1), pr (a 2) (b 2), pr (a 3) (b 3), pr (a 4) (b 4)]), v4, v5, v6]) 0 3 _ ⟨_, _, _, rfl⟩ ?_ ?_
    · rintro σ ⟨v4, v5, v6, rfl⟩
      exact qq
    · rintro j hj σ ⟨v4, v5, v6, rfl⟩ E' hrt hnx hct
      match j, hj with
      | 0, _ =>
        ((conv => whnf); repeat decreasing_trivial_pre_omega)
        refine' hnx _ ⟨_, _, _, ?_⟩
        rotate_left 3
        rw [← x1, ← y1]
        rfl
      | 1, _ =>
        ((conv => whnf); repeat decreasing_trivial_pre_omega)
        refine' hnx _ ⟨_, _, _, ?_⟩
        rotate_left 3
        rw [← x2, ← y2]
        rfl
      | 2, _ =>
        ((conv => whnf); repeat decreasing_trivial_pre_omega)
        refine' hnx _ ⟨_, _, _, ?_⟩
        rotate_left 3
        rw [← x3, ← y3]
        rfl
  · subst hp hq hu hv
    ((conv => whnf); repeat decreasing_trivial_pre_omega)
    refine forL_in ?_
    refine forG_rng (S := fun j σ => ∃ v4 v5 v6, σ = [.d (.int 2), .d (pr (a 2) (b 2)), .d (pr (a 3) (b 3)), .ol (match j with | 0 => [pr (a 2) (b 2), pr (a 2) (b 2), pr (a 2) (b 2), pr (a 3) (b 3), pr (a 2) (b 2)] | 1 => [pr (a 2) (b 2), pr (a 2) (b 2), pr (a 2) (b 2), pr (a 3) (b 3), pr (a 4) (b 4)] | 2 => [pr (a 0) (b 0), pr (a 2) (b 2), pr (a 2) (b 2), pr (a 3) (b 3), pr (a 4) (b 4)] | _ => [pr (a 0) (b 0), pr (a 1) (b 1), pr (a 2) (b 2), pr (a 3) (b 3), pr (a 4) (b 4)]), v4, v5, v6]) 0 3 _ ⟨_, _, _, rfl⟩ ?_ ?_
    · rintro σ ⟨v4, v5, v6, rfl⟩
      exact qq
    · rintro j hj σ ⟨v4, v5, v6, rfl⟩ E' hrt hnx hct
      match j, hj with
      | 0, _ =>
        ((conv => whnf); repeat decreasing_trivial_pre_omega)
        refine' hnx _ ⟨_, _, _, ?_⟩
        rotate_left 3
        rw [← x2, ← y2]
        rfl
      | 1, _ =>
        ((conv => whnf); repeat decreasing_trivial_pre_omega)
        refine' hnx _ ⟨_, _, _, ?_⟩
        rotate_left 3
        rw [← x3, ← y3]
        rfl
      | 2, _ =>
        ((conv => whnf); repeat decreasing_trivial_pre_omega)
        refine' hnx _ ⟨_, _, _, ?_⟩
        rotate_left 3
        rw [← x4, ← y4]
        rfl
  · subst hp hq hu hv
    ((conv => whnf); repeat decreasing_trivial_pre_omega)
    refine forL_in ?_
    refine forG_rng (S := fun j σ => ∃ v4 v5 v6, σ = [.d (.int 3), .d (pr (a 3) (b 3)), .d (pr (a 4) (b 4)), .ol (match j with | 0 => [pr (a 3) (b 3), pr (a 3) (b 3), pr (a 3) (b 3), pr (a 3) (b 3), pr (a 4) (b 4)] | 1 => [pr (a 0) (b 0), pr (a 3) (b 3), pr (a 3) (b 3), pr (a 3) (b 3), pr (a 4) (b 4)] | 2 => [pr (a 0) (b 0), pr (a 1) (b 1), pr (a 3) (b 3), pr (a 3) (b 3), pr (a 4) (b 4)] | _ => [pr (a 0) (b 0), pr (a 1) (b 1), pr (a 2) (b 2), pr (a 3) (b 3), pr (a 4) (b 4)]), v4, v5, v6]) 0 3 _ ⟨_, _, _, rfl⟩ ?_ ?_
    · rintro σ ⟨v4, v5, v6, rfl⟩
      exact qq
    · rintro j hj σ ⟨v4, v5, v6, rfl⟩ E' hrt hnx hct
      match j, hj with
      | 0, _ =>
        ((conv => whnf); repeat decreasing_trivial_pre_omega)
        refine' hnx _ ⟨_, _, _, ?_⟩
        rotate_left 3
        rw [← x3, ← y3]
        rfl
      | 1, _ =>
        ((conv => whnf); repeat decreasing_trivial_pre_omega)
        refine' hnx _ ⟨_, _, _, ?_⟩
        rotate_left 3
        rw [← x4, ← y4]
        rfl
      | 2, _ =>
        ((conv => whnf); repeat decreasing_trivial_pre_omega)
        refine' hnx _ ⟨_, _, _, ?_⟩
        rotate_left 3
        rw [← x0, ← y0]
        rfl
  · subst hp hq hu hv
    ((conv => whnf); repeat decreasing_trivial_pre_omega)
    refine forL_in ?_
    refine forG_rng (S := fun j σ => ∃ v4 v5 v6, σ = [.d (.int 4), .d (pr (a 4) (b 4)), .d (pr (a 0) (b 0)), .ol (match j with | 0 => [pr (a 0) (b 0), pr (a 4) (b 4), pr (a 4) (b 4), pr (a 4) (b 4), pr (a 4) (b 4)] | 1 => [pr (a 0) (b 0), pr (a 1) (b 1), pr (a 4) (b 4), pr (a 4) (b 4), pr (a 4) (b 4)] | 2 => [pr (a 0) (b 0), pr (a 1) (b 1), pr (a 2) (b 2), pr (a 4) (b 4), pr (a 4) (b 4)] | _ => [pr (a 0) (b 0), pr (a 1) (b 1), pr (a 2) (b 2), pr (a 3) (b 3), pr (a 4) (b 4)]), v4, v5, v6]) 0 3 _ ⟨_, _, _, rfl⟩ ?_ ?_
    · rintro σ ⟨v4, v5, v6, rfl⟩
      exact qq
    · rintro j hj σ ⟨v4, v5, v6, rfl⟩ E' hrt hnx hct
      match j, hj with
      | 0, _ =>
        ((conv => whnf); repeat decreasing_trivial_pre_omega)
        refine' hnx _ ⟨_, _, _, ?_⟩
        rotate_left 3
        rw [← x4, ← y4]
        rfl
      | 1, _ =>
        ((conv => whnf); repeat decreasing_trivial_pre_omega)
        refine' hnx _ ⟨_, _, _, ?_⟩
        rotate_left 3
        rw [← x0, ← y0]
        rfl
      | 2, _ =>
        ((conv => whnf); repeat decreasing_trivial_pre_omega)
        refine' hnx _ ⟨_, _, _, ?_⟩
        rotate_left 3
        rw [← x1, ← y1]
        rfl
theorem len__law_whole : ∀ W ds Q R, sp__law_whole W ds Q R → ds.length = 2 := by
  rintro W ds Q R ⟨a, b, d, rfl, _⟩
  rfl
theorem law__law_whole : ∀ W ds Q R, sp__law_whole W ds Q R → g__law_whole W R (endsD Q) (startD 3 ds) := by
  rintro W ds Q R ⟨a, b, d, rfl, h, q⟩
  have h0 : 0 < d := h
  unfold g__law_whole
  conv => whnf
  refine ⟨5, rfl, by decide, by decide, ?_⟩
  refine lc_fn (whB a b d) dirs5 (by show 2 < 3; decide) (fun r hr Qd qd => ?_) (by decide) q
  obtain ⟨r0, r4⟩ := dirs_in hr
  conv => whnf
  refine ix_keysP r0 r4 ?_
  ((conv => whnf); repeat decreasing_trivial_pre_omega)
  refine ⟨h0, ?_⟩
  ((conv => whnf); repeat decreasing_trivial_pre_omega)
  rw [eqb_int]
  unfold whB at qd
  by_cases h1 : a r % d = 0
  · rw [decide_eq_true h1] at qd ⊢
    conv => whnf
    refine ix_keysP r0 r4 ?_
    ((conv => whnf); repeat decreasing_trivial_pre_omega)
    refine ⟨h0, ?_⟩
    ((conv => whnf); repeat decreasing_trivial_pre_omega)
    rw [eqb_int]
    exact qd
  · rw [decide_eq_false h1] at qd ⊢
    exact qd
theorem len__law_sides : ∀ W ds Q R, sp__law_sides W ds Q R → ds.length = 2 := by
  rintro W ds Q R ⟨a, b, d, rfl, _⟩
  rfl
theorem law__law_sides : ∀ W ds Q R, sp__law_sides W ds Q R → g__law_sides W R (endsD Q) (startD 9 ds) := by
  rintro W ds Q R ⟨a, b, d, rfl, h1, h, q⟩
  unfold g__law_sides
  conv => whnf
  refine ⟨a, b, d, rfl, h1, ?_⟩
  have hw := whL_mem (d := d) h
  generalize whL a b d = wl at *
  simp only [WL, List.mem_cons, List.not_mem_nil, or_false] at hw
  rcases hw with rfl | rfl | rfl | rfl | rfl | rfl | rfl
  · ((conv => whnf); repeat decreasing_trivial_pre_omega)
    exact q
  · ((conv => whnf); repeat decreasing_trivial_pre_omega)
    exact q
  · ((conv => whnf); repeat decreasing_trivial_pre_omega)
    exact q
  · ((conv => whnf); repeat decreasing_trivial_pre_omega)
    exact q
  · ((conv => whnf); repeat decreasing_trivial_pre_omega)
    exact q
  · ((conv => whnf); repeat decreasing_trivial_pre_omega)
    exact q
  · ((conv => whnf); repeat decreasing_trivial_pre_omega)
    refine forL_in ?_
    refine forG_rng (S := fun n σ => ∃ v5 v6 v7 v8, σ = [.d (.int d), .d (keysP a b), .d (.lst (dirs5.map .int)), .d (tD (rot5 n)), .ol ((acc10 n).map tD), v5, v6, v7, v8]) 0 5 _ ⟨_, _, _, _, rfl⟩ ?_ ?_
    · rintro σ ⟨v5, v6, v7, v8, rfl⟩
      conv => whnf
      refine sort_is acc10_five acc10_perm ten5_srt ?_
      exact q
    · rintro j hj σ ⟨v5, v6, v7, v8, rfl⟩ E' hrt hnx hct
      match j, hj with
      | 0, _ => ((conv => whnf); repeat decreasing_trivial_pre_omega); exact hnx _ ⟨_, _, _, _, rfl⟩
      | 1, _ => ((conv => whnf); repeat decreasing_trivial_pre_omega); exact hnx _ ⟨_, _, _, _, rfl⟩
      | 2, _ => ((conv => whnf); repeat decreasing_trivial_pre_omega); exact hnx _ ⟨_, _, _, _, rfl⟩
      | 3, _ => ((conv => whnf); repeat decreasing_trivial_pre_omega); exact hnx _ ⟨_, _, _, _, rfl⟩
      | 4, _ => ((conv => whnf); repeat decreasing_trivial_pre_omega); exact hnx _ ⟨_, _, _, _, rfl⟩
/-- a drawn bottom -/
def Bot (z : D) (m : Int) : Prop := z = .int m ∧ 1 ≤ m ∧ m ≤ 1000003
theorem num_sz {x m i : Int} (x0 : 0 ≤ x) (x1 : x < m) (hm : m ≤ 1000003) (h : Sz 120 i) : Sz 141 (x + m * i) ∧ MulOk m i := by
  have sm : Sz 20 m := by
    show m.natAbs < 2 ^ 20
    omega
  have sx : Sz 140 x := by
    have : Sz 20 x := by
      show x.natAbs < 2 ^ 20
      omega
    exact this.mono (by decide)
  exact ⟨sx.add (sm.mul h), sm.ok h (by decide)⟩
theorem bot_sz {m : Int} (h1 : 1 ≤ m) (h2 : m ≤ 1000003) : Sz 20 m := by
  show m.natAbs < 2 ^ 20
  omega
theorem len__law_world : ∀ W ds Q R, sp__law_world W ds Q R → ds.length = 2 := by
  rintro W ds Q R ⟨d, l, e, _, rfl, _⟩
  rfl
theorem law__law_world : ∀ W ds Q R, sp__law_world W ds Q R → g__law_world W R (endsD Q) (startD 7 ds) := by
  rintro W ds Q R ⟨d, l, e, rfl, rfl, q⟩
  unfold g__law_world
  cases e
  all_goals
    ((conv => whnf); repeat decreasing_trivial_pre_omega)
    refine ⟨_, _, _, rfl, .inr rfl, by decide, by decide, fun z hz => ?_⟩
    have hb : ∃ m, Bot z m := by
      simp only [List.mem_cons, List.not_mem_nil, or_false] at hz
      rcases hz with rfl | rfl | rfl | rfl | rfl | rfl | rfl | rfl | rfl | rfl | rfl | rfl | rfl | rfl | rfl | rfl <;> exact ⟨_, rfl, by decide, by decide⟩
    obtain ⟨m, rfl, m1, m2⟩ := hb
    clear hz
    conv => whnf
    refine ⟨_, _, _, rfl, rfl, by first | decide | omega, by first | decide | omega, fun r r0 r1 => ?_⟩
    conv => whnf
    refine ⟨_, _, _, rfl, rfl, by first | decide | omega, by first | decide | omega, fun x x0 x1 => ?_⟩
    conv => whnf
    refine ⟨_, _, _, rfl, rfl, by first | decide | omega, by first | decide | omega, fun y y0 y1 => ?_⟩
    ((conv => whnf); repeat decreasing_trivial_pre_omega)
    refine ⟨_, _, _, rfl, rfl, by first | decide | omega, by first | decide | omega, fun u u0 u1 => ?_⟩
    conv => whnf
    refine ⟨_, _, _, rfl, rfl, by first | decide | omega, by first | decide | omega, fun v v0 v1 => ?_⟩
    ((conv => whnf); repeat decreasing_trivial_pre_omega)
    intro i1 h1
    refine ⟨(num_sz (x := 0) (by decide) (by omega) m2 h1).2, ?_⟩
    ((conv => whnf); repeat decreasing_trivial_pre_omega)
    intro i2 h2
    refine ⟨(num_sz (x := 0) (by decide) (by omega) m2 h2).2, ?_⟩
    ((conv => whnf); repeat decreasing_trivial_pre_omega)
    intro i3 h3
    refine ⟨(num_sz (x := 0) (by decide) (by omega) m2 h3).2, ?_⟩
    ((conv => whnf); repeat decreasing_trivial_pre_omega)
    intro i4 h4
    refine ⟨(num_sz (x := 0) (by decide) (by omega) m2 h4).2, ?_⟩
    ((conv => whnf); repeat decreasing_trivial_pre_omega)
    refine ⟨_, _, _, _, _, 141, rfl, r0, by omega, ?a1, ?a2, (num_sz u0 u1 m2 h3).1, (num_sz v0 v1 m2 h4).1, fun a b hk _ _ _ _ sa sb => ?_⟩
    case a1 => first | exact (num_sz x0 x1 m2 h1).1 | exact (num_sz (x := 0) (by decide) (by omega) m2 h1).1
    case a2 => first | exact (num_sz y0 y1 m2 h2).1 | exact (num_sz (x := 0) (by decide) (by omega) m2 h2).1
    have ka : KA 300 a b m := (⟨hk, m1, (bot_sz m1 m2).mono (by decide), sa, sb⟩ : KA 144 a b m).up (by decide)
    conv => whnf
    refine ⟨a, b, m, rfl, m1, hk, ?_⟩
    have hw := whL_mem (d := m) hk
    conv => whnf
    refine ⟨d, l, _, rfl, .inl rfl, ?_, ?_, fun z hz => ?_⟩
    · rw [List.length_map]
      generalize whL a b m = wl at hw
      revert wl
      decide
    · rw [List.length_map]
      generalize whL a b m = wl at hw
      revert wl
      decide
    · obtain ⟨s, hs, rfl⟩ := List.mem_map.mp hz
      ((conv => whnf); repeat decreasing_trivial_pre_omega)
      exact q a b m s ⟨ka, hs⟩
theorem len__law_floor : ∀ W ds Q R, sp__law_floor W ds Q R → ds.length = 2 := by
  rintro W ds Q R ⟨d, l, a, b, m, s, _, rfl, _⟩
  rfl
theorem law__law_floor : ∀ W ds Q R, sp__law_floor W ds Q R → g__law_floor W R (endsD Q) (startD 8 ds) := by
  rintro W ds Q R ⟨d, l, a, b, m, s, rfl, rfl, ⟨h, hs⟩, q⟩
  have k4 := h.up (by decide : 1000 ≤ 4000)
  unfold g__law_floor
  ((conv => whnf); repeat decreasing_trivial_pre_omega)
  refine ⟨_, _, _, rfl, .inr rfl, by decide, by decide, fun z hz => ?_⟩
  have hb : ∃ k, z = .int k ∧ 1 ≤ k ∧ k ≤ 3 := by
    simp only [List.mem_cons, List.not_mem_nil, or_false] at hz
    rcases hz with rfl | rfl | rfl | rfl <;> exact ⟨_, rfl, by decide, by decide⟩
  obtain ⟨k, rfl, k1, k3⟩ := hb
  clear hz
  have zk : Sz 20 k := Sz.small (by omega) (by omega)
  have ok : ∀ {x : Int}, Sz 1000 x → MulOk x k := fun hx => hx.ok zk (by decide)
  have fr : ∀ {x y : Int}, Sz 1000 x → Sz 1000 y → Fr 4000 (tri (x * k) (y * k) (m * k)) x y m := fun {x y} hx hy => by
    refine ⟨_, _, _, rfl, ⟨(hx.mul zk).mono (by decide), (hy.mul zk).mono (by decide), (h.sd.mul zk).mono (by decide), ?_⟩, ?_, ?_⟩
    · exact Int.le_trans (by decide : (1 : Int) ≤ 1 * 1) (Int.mul_le_mul h.d1 k1 (by decide) (by have := h.d1; omega))
    · rw [Int.mul_assoc, Int.mul_comm k m]
    · rw [Int.mul_assoc, Int.mul_comm k m]
  have f0 := fr (h.sa 0 (by decide) (by decide)) (h.sb 0 (by decide) (by decide))
  have f1 := fr (h.sa 1 (by decide) (by decide)) (h.sb 1 (by decide) (by decide))
  ((conv => whnf); repeat decreasing_trivial_pre_omega)
  refine ⟨ok (h.sa 0 (by decide) (by decide)), ?_⟩
  ((conv => whnf); repeat decreasing_trivial_pre_omega)
  refine ⟨ok (h.sb 0 (by decide) (by decide)), ?_⟩
  ((conv => whnf); repeat decreasing_trivial_pre_omega)
  refine ⟨ok h.sd, ?_⟩
  ((conv => whnf); repeat decreasing_trivial_pre_omega)
  refine ⟨ok (h.sa 1 (by decide) (by decide)), ?_⟩
  ((conv => whnf); repeat decreasing_trivial_pre_omega)
  refine ⟨ok (h.sb 1 (by decide) (by decide)), ?_⟩
  ((conv => whnf); repeat decreasing_trivial_pre_omega)
  refine ⟨ok h.sd, ?_⟩
  ((conv => whnf); repeat decreasing_trivial_pre_omega)
  refine ⟨pl_tD 63 s, rfl, ?_⟩
  have e0 : eqb (tD s) (.tup [.int 0, .int 0, .int 0, .int 0, .int 0]) = decide (s = zer5) := eqb_tD s zer5
  have fin : sp_Floor (some (d, l)) [tri (a 0 * k) (b 0 * k) (m * k), tri (a 1 * k) (b 1 * k) (m * k), tD s] Q R := ⟨_, _, s, a, b, m, rfl, k4, f0, f1, hs, q⟩
  conv => whnf
  rw [e0]
  by_cases hz : s = zer5
  · subst hz
    rw [decide_eq_true rfl]
    conv => whnf
    refine ⟨rfl, rfl, ?_⟩
    conv => whnf
    cases eqb (.int k) (.int 1)
    · ((conv => whnf); repeat decreasing_trivial_pre_omega)
      exact fin
    · ((conv => whnf); repeat decreasing_trivial_pre_omega)
      exact fin
  · rw [decide_eq_false hz]
    ((conv => whnf); repeat decreasing_trivial_pre_omega)
    exact fin
theorem len__law_worms : ∀ W ds Q R, sp__law_worms W ds Q R → ds.length = 1 := by
  rintro W ds Q R ⟨a, b, d, s, rfl, _⟩
  rfl
theorem law__law_worms : ∀ W ds Q R, sp__law_worms W ds Q R → g__law_worms W R (endsD Q) (startD 6 ds) := by
  rintro W ds Q R ⟨a, b, d, s, rfl, ⟨h, hs⟩, q⟩
  have hl := sidesL_five _ (whL_mem h.r) s hs
  unfold g__law_worms
  ((conv => whnf); repeat decreasing_trivial_pre_omega)
  refine ⟨h.d1, h.r, ?_⟩
  conv => whnf
  refine ⟨a, b, d, rfl, h.d1, ?_⟩
  refine lc_fn (fun r => decide (chg s r ∈ sidesL (whL a b d))) (whL a b d) (by show 5 < 6; decide) (fun r hr Qd qd => ?_) (Nat.le_trans (List.length_filter_le _ _) (by decide)) q
  obtain ⟨r0, r4⟩ := whL_dir hr
  conv => whnf
  refine ⟨s, r, rfl, hl, r0, r4, ?_⟩
  refine ⟨pl_tD 63 _, (pl_tDs 62 _).2, ?_⟩
  conv => whnf
  rw [inb_tD]
  exact qd
theorem st_norm {g : GS} {E : Ed} {σ σ' : List SV} (e : σ = σ') (h : g E σ') : g E σ := by rw [e]; exact h
theorem len__law_moved : ∀ W ds Q R, sp__law_moved W ds Q R → ds.length = 2 := by
  rintro W ds Q R ⟨a, b, d, s, n0, n1, n2, n3, n4, rfl, _⟩
  rfl
theorem law__law_moved : ∀ W ds Q R, sp__law_moved W ds Q R → g__law_moved W R (endsD Q) (startD 11 ds) := by
  rintro W ds Q R ⟨a, b, d, s, n0, n1, n2, n3, n4, rfl, ⟨h, hs⟩, hn, hz, q⟩
  obtain ⟨f, f0, f1, f2, f3, f4, hn⟩ : ∃ f : Int → Int, f 0 = n0 ∧ f 1 = n1 ∧ f 2 = n2 ∧ f 3 = n3 ∧ f 4 = n4 ∧ Szf 100 f := ⟨at5 n0 n1 n2 n3 n4, rfl, rfl, rfl, rfl, rfl, hn⟩
  obtain ⟨p, p0, p1, p2, p3, p4, hp⟩ : ∃ p : Int → Int, p 0 = n4 + n0 + n1 ∧ p 1 = n0 + n1 + n2 ∧ p 2 = n1 + n2 + n3 ∧ p 3 = n2 + n3 + n4 ∧ p 4 = n3 + n4 + n0 ∧ ∀ j, p j = f ((j - 1) % 5) + f (j % 5) + f ((j + 1) % 5) := by
    refine ⟨fun j => f ((j - 1) % 5) + f (j % 5) + f ((j + 1) % 5), ?_, ?_, ?_, ?_, ?_, fun j => rfl⟩ <;> simp [f0, f1, f2, f3, f4]
  have zf : ∀ j, Sz 100 (f (j % 5)) := fun j => hn (j % 5) (by omega) (by omega)
  have zp : ∀ j, 0 ≤ j → j ≤ 4 → Sz 102 (p j) := fun j j0 j4 => by
    rw [hp]
    exact ((zf _).add (zf _)).add ((zf _).mono (by decide))
  have zn : ∀ j, 0 ≤ j → j ≤ 4 → Sz 102 (-f j) := fun j j0 j4 => (hn j j0 j4).neg.mono (by decide)
  have ok1 : ∀ j, 0 ≤ j → j ≤ 4 → MulOk d (p j) := fun j j0 j4 => h.sd.ok (zp j j0 j4) (by decide)
  have ok2 : ∀ j, 0 ≤ j → j ≤ 4 → MulOk d (-f j) := fun j j0 j4 => h.sd.ok (zn j j0 j4) (by decide)
  have kr : KR p (fun j => -f j) := by
    refine ⟨⟨?_, ?_⟩, ⟨?_, ?_⟩, ⟨?_, ?_⟩⟩ <;> omega
  have kd : KR (fun j => a j + d * p j) (fun j => b j + d * (-f j)) := by
    obtain ⟨⟨x2, y2⟩, ⟨x3, y3⟩, ⟨x4, y4⟩⟩ := h.r
    obtain ⟨⟨u2, v2⟩, ⟨u3, v3⟩, ⟨u4, v4⟩⟩ := kr
    refine ⟨⟨?_, ?_⟩, ⟨?_, ?_⟩, ⟨?_, ?_⟩⟩
    · show a 2 + d * p 2 = -(b 1 + d * (-f 1)) - (a 0 + d * p 0)
      rw [u2, Int.mul_sub, Int.mul_neg]; omega
    · show b 2 + d * (-f 2) = -(a 1 + d * p 1) - (b 1 + d * (-f 1)) - (b 0 + d * (-f 0))
      rw [v2, Int.mul_sub, Int.mul_sub, Int.mul_neg]; omega
    · show a 3 + d * p 3 = -(b 2 + d * (-f 2)) - (a 1 + d * p 1)
      rw [u3, Int.mul_sub, Int.mul_neg]; omega
    · show b 3 + d * (-f 3) = -(a 2 + d * p 2) - (b 2 + d * (-f 2)) - (b 1 + d * (-f 1))
      rw [v3, Int.mul_sub, Int.mul_sub, Int.mul_neg]; omega
    · show a 4 + d * p 4 = -(b 3 + d * (-f 3)) - (a 2 + d * p 2)
      rw [u4, Int.mul_sub, Int.mul_neg]; omega
    · show b 4 + d * (-f 4) = -(a 3 + d * p 3) - (b 3 + d * (-f 3)) - (b 2 + d * (-f 2))
      rw [v4, Int.mul_sub, Int.mul_sub, Int.mul_neg]; omega
  have wd : Wld (fun j => a j + d * p j) (fun j => b j + d * (-f j)) d s := by
    refine ⟨⟨kd, h.d1, h.sd.mono (by decide), fun i i0 i4 => ?_, fun i i0 i4 => ?_⟩, ?_⟩
    · exact (((h.sa i i0 i4).mono (by decide : 300 ≤ 402)).add (h.sd.mul (zp i i0 i4))).mono (by decide)
    · exact (((h.sb i i0 i4).mono (by decide : 300 ≤ 402)).add (h.sd.mul (zn i i0 i4))).mono (by decide)
    · rw [whL_cong (a := a) (b := b)]
      · exact hs
      · intro i i0 i4
        exact ⟨⟨p i, by omega⟩, ⟨-f i, by omega⟩⟩
  have qq := q _ _ wd (by show a 0 + d * p 0 = _; rw [p0])
  unfold g__law_moved
  conv => whnf
  decreasing_trivial_pre_omega; decreasing_trivial_pre_omega
  refine ⟨5, rfl, by decide, by decide, ?_⟩
  refine lc5 (g := fun j => pr (p j) (-f j)) (fun j j0 j4 Qd qd => ?_) ?_
  · rcases five_of j0 j4 with rfl | rfl | rfl | rfl | rfl
    all_goals
      ((conv => whnf); repeat decreasing_trivial_pre_omega)
      first
        | (rw [p0, f0] at qd; exact qd)
        | (rw [p1, f1] at qd; exact qd)
        | (rw [p2, f2] at qd; exact qd)
        | (rw [p3, f3] at qd; exact qd)
        | (rw [p4, f4] at qd; exact qd)
  dsimp only
  refine st_norm (g := gRet _) (σ' := [.d (wrl a b d s), .d (tD [n0, n1, n2, n3, n4]), .d (.int d), .d (keysP a b), .d (tD s), .d (.lst [pr (p 0) (-f 0), pr (p 1) (-f 1), pr (p 2) (-f 2), pr (p 3) (-f 3), pr (p 4) (-f 4)]), .no, .no, .no, .no, .no]) rfl ?_
  ((conv => whnf); repeat decreasing_trivial_pre_omega)
  refine ⟨ok1 0 (by decide) (by decide), ?_⟩
  ((conv => whnf); repeat decreasing_trivial_pre_omega)
  refine ⟨ok2 0 (by decide) (by decide), ?_⟩
  ((conv => whnf); repeat decreasing_trivial_pre_omega)
  refine ⟨ok1 1 (by decide) (by decide), ?_⟩
  ((conv => whnf); repeat decreasing_trivial_pre_omega)
  refine ⟨ok2 1 (by decide) (by decide), ?_⟩
  ((conv => whnf); repeat decreasing_trivial_pre_omega)
  refine ⟨ok1 2 (by decide) (by decide), ?_⟩
  ((conv => whnf); repeat decreasing_trivial_pre_omega)
  refine ⟨ok2 2 (by decide) (by decide), ?_⟩
  ((conv => whnf); repeat decreasing_trivial_pre_omega)
  refine ⟨ok1 3 (by decide) (by decide), ?_⟩
  ((conv => whnf); repeat decreasing_trivial_pre_omega)
  refine ⟨ok2 3 (by decide) (by decide), ?_⟩
  ((conv => whnf); repeat decreasing_trivial_pre_omega)
  refine ⟨ok1 4 (by decide) (by decide), ?_⟩
  ((conv => whnf); repeat decreasing_trivial_pre_omega)
  refine ⟨ok2 4 (by decide) (by decide), ?_⟩
  ((conv => whnf); repeat decreasing_trivial_pre_omega)
  exact qq
theorem len__law_turned : ∀ W ds Q R, sp__law_turned W ds Q R → ds.length = 2 := by
  rintro W ds Q R ⟨x, y, a, b, d, s, rfl, _⟩
  rfl
theorem turnedD_no {a b : Int → Int} {d : Int} {s : List Int} {y : D} (h : isDir y = false) : turnedD a b d s y = .tup [.str "BadDirection", y] := by
  cases y with
  | int r =>
    have : ¬ (0 ≤ r ∧ r ≤ 4) := of_decide_eq_false h
    simp only [turnedD, if_neg this]
  | _ => rfl
theorem law__law_turned : ∀ W ds Q R, sp__law_turned W ds Q R → g__law_turned W R (endsD Q) (startD 3 ds) := by
  rintro W ds Q R ⟨x, y, a, b, d, s, rfl, hf, hy, q⟩
  unfold g__law_turned
  conv => whnf
  refine ⟨x, y, a, b, d, s, rfl, hf, hy, fun hd => ?_, fun r e r0 r4 => ?_⟩
  · rw [turnedD_no hd] at q
    simp [hdG, gErF, clauseStart]
    exact q
  · subst e
    simp only [turnedD, if_pos (⟨r0, r4⟩ : 0 ≤ r ∧ r ≤ 4)] at q
    by_cases hm : r ∈ worms (whL a b d) s
    · rw [if_pos hm] at q ⊢
      exact q
    · rw [if_neg hm] at q ⊢
      simp [hdG, gErF, clauseStart]
      exact q
theorem len__law_sided : ∀ W ds Q R, sp__law_sided W ds Q R → ds.length = 2 := by
  rintro W ds Q R ⟨x, y, a, b, d, s, rfl, _⟩
  rfl
theorem law__law_sided : ∀ W ds Q R, sp__law_sided W ds Q R → g__law_sided W R (endsD Q) (startD 3 ds) := by
  rintro W ds Q R ⟨x, y, a, b, d, s, rfl, hf, hy, q1, q2⟩
  unfold g__law_sided
  conv => whnf
  refine ⟨x, y, a, b, d, s, rfl, hf, hy, fun hd => ?_, fun t e ht => ?_⟩
  · have q := q1 hd
    simp [hdG, gErF, clauseStart]
    exact q
  · exact q2 t e ht
theorem no_mu {m z : Int} (hm : 3 ≤ m) (h0 : z ≠ 0) (h1 : -3 < z) (h2 : z < 3) : ¬ Mu m z := by
  rintro ⟨k, e⟩
  rcases Int.lt_trichotomy k 0 with h | h | h
  · have := Int.mul_le_mul_of_nonneg_left (show k ≤ -1 by omega) (show (0 : Int) ≤ m by omega)
    omega
  · subst h
    omega
  · have := Int.mul_le_mul_of_nonneg_left (show 1 ≤ k by omega) (show (0 : Int) ≤ m by omega)
    omega
theorem reg_one {m r : Int} {a b : Int → Int} (hm : 3 ≤ m) (r0 : 0 ≤ r) (r4 : r ≤ 4) (h : KR a b) (e1 : a r = 1) (e2 : b r = 0) (e3 : a ((r + 1) % 5) = 1) (e4 : b ((r + 1) % 5) = 0) : whL a b m = [] := by
  obtain ⟨a3, b3⟩ := h.k3
  obtain ⟨a4, b4⟩ := h.k4
  obtain ⟨⟨a0, b0⟩, ⟨a1, b1⟩, ⟨a2, b2⟩⟩ := h
  refine List.filter_eq_nil_iff.mpr fun i hi hw => ?_
  obtain ⟨w1, w2⟩ := wh_iff.mp hw
  have n1 : ∀ z, z = 1 → ¬ Mu m z := fun z e => no_mu hm (by omega) (by omega) (by omega)
  have n2 : ∀ z, z = -1 → ¬ Mu m z := fun z e => no_mu hm (by omega) (by omega) (by omega)
  have n3 : ∀ z, z = 2 → ¬ Mu m z := fun z e => no_mu hm (by omega) (by omega) (by omega)
  obtain ⟨i0, i4⟩ := dirs_in hi
  rcases five_of r0 r4 with rfl | rfl | rfl | rfl | rfl <;> rcases five_of i0 i4 with rfl | rfl | rfl | rfl | rfl <;> simp only [show ((0 : Int) + 1) % 5 = 1 from rfl, show ((1 : Int) + 1) % 5 = 2 from rfl, show ((2 : Int) + 1) % 5 = 3 from rfl, show ((3 : Int) + 1) % 5 = 4 from rfl, show ((4 : Int) + 1) % 5 = 0 from rfl] at e3 e4 <;> first
    | exact n1 _ (by omega) w1
    | exact n2 _ (by omega) w1
    | exact n3 _ (by omega) w2
theorem reg_end {m r i1 i2 i3 i4 : Int} {a b a' b' : Int → Int} {Q : D → Prop} (q : ∀ (a b : Int → Int) (m : Int) (s : List Int), Wld3 a b m s → Q (wrl a b m s)) (r0 : 0 ≤ r) (r4 : r ≤ 4) (m1 : 1 ≤ m) (m2 : m ≤ 1000003) (hk : KR a b) (hw : whL a b m = []) (hk' : KR a' b') (e1 : a' r = a r + m * i1) (e2 : b' r = b r + m * i2) (e3 : a' ((r + 1) % 5) = a ((r + 1) % 5) + m * i3) (e4 : b' ((r + 1) % 5) = b ((r + 1) % 5) + m * i4) (sa : Szf 144 a') (sb : Szf 144 b') : Q (wrl a' b' m [0, 0, 0, 0, 0]) := by
  have hm : ∀ i, 0 ≤ i → i ≤ 4 → Mu m (a' i - a i) ∧ Mu m (b' i - b i) := (hk.sub hk').mu r0 r4 ⟨⟨i1, by omega⟩, ⟨i2, by omega⟩⟩ ⟨⟨i3, by omega⟩, ⟨i4, by omega⟩⟩
  have hw' : whL a' b' m = [] := (whL_cong hm).trans hw
  refine q a' b' m _ ⟨(⟨hk', m1, (bot_sz m1 m2).mono (by decide), sa, sb⟩ : KA 144 a' b' m).up (by decide), ?_⟩
  rw [hw']
  decide
theorem len__law_regular : ∀ W ds Q R, sp__law_regular W ds Q R → ds.length = 1 := by
  rintro W ds Q R ⟨d, l, _, rfl, _⟩
  rfl
theorem law__law_regular : ∀ W ds Q R, sp__law_regular W ds Q R → g__law_regular W R (endsD Q) (startD 5 ds) := by
  rintro W ds Q R ⟨d, l, rfl, rfl, q⟩
  unfold g__law_regular
  ((conv => whnf); repeat decreasing_trivial_pre_omega)
  refine ⟨_, _, _, rfl, .inr rfl, by decide, by decide, fun z hz => ?_⟩
  have hb : ∃ m, z = .int m ∧ 3 ≤ m ∧ m ≤ 1000003 := by
    simp only [List.mem_cons, List.not_mem_nil, or_false] at hz
    rcases hz with rfl | rfl | rfl | rfl | rfl | rfl | rfl | rfl | rfl | rfl | rfl <;> exact ⟨_, rfl, by decide, by decide⟩
  obtain ⟨m, rfl, m3, m2⟩ := hb
  clear hz
  have m1 : 1 ≤ m := by omega
  conv => whnf
  refine ⟨_, _, _, rfl, rfl, by first | decide | omega, by first | decide | omega, fun r r0 r1 => ?_⟩
  ((conv => whnf); repeat decreasing_trivial_pre_omega)
  refine ⟨_, _, _, rfl, rfl, by first | decide | omega, by first | decide | omega, fun x x0 x1 => ?_⟩
  conv => whnf
  refine ⟨_, _, _, rfl, rfl, by first | decide | omega, by first | decide | omega, fun y y0 y1 => ?_⟩
  ((conv => whnf); repeat decreasing_trivial_pre_omega)
  refine ⟨_, _, _, rfl, rfl, by first | decide | omega, by first | decide | omega, fun u u0 u1 => ?_⟩
  conv => whnf
  refine ⟨_, _, _, rfl, rfl, by first | decide | omega, by first | decide | omega, fun v v0 v1 => ?_⟩
  ((conv => whnf); repeat decreasing_trivial_pre_omega)
  have sx : ∀ {x : Int}, 0 ≤ x → x < m → Sz 20 x := fun {x} x0 x1 => by
    show x.natAbs < 2 ^ 20
    omega
  refine ⟨_, _, _, _, _, 20, rfl, r0, by omega, sx x0 x1, sx y0 y1, sx u0 u1, sx v0 v1, fun a b hk e1 e2 e3 e4 _ _ => ?_⟩
  conv => whnf
  refine ⟨a, b, m, rfl, m1, ?_⟩
  conv => whnf
  refine ⟨by decide, ?_⟩
  refine ⟨pl_il 63 _, rfl, ?_⟩
  have ew : eqb (.lst ((whL a b m).map .int)) (.lst []) = decide (whL a b m = []) := eqb_il _ []
  conv => whnf
  rw [ew]
  have zm : Sz 20 m := by
    show m.natAbs < 2 ^ 20
    omega
  by_cases hw : whL a b m = []
  · rw [decide_eq_true hw]
    ((conv => whnf); repeat decreasing_trivial_pre_omega)
    intro i1 h1
    refine ⟨zm.ok h1 (by decide), ?_⟩
    ((conv => whnf); repeat decreasing_trivial_pre_omega)
    intro i2 h2
    refine ⟨zm.ok h2 (by decide), ?_⟩
    ((conv => whnf); repeat decreasing_trivial_pre_omega)
    intro i3 h3
    refine ⟨zm.ok h3 (by decide), ?_⟩
    ((conv => whnf); repeat decreasing_trivial_pre_omega)
    intro i4 h4
    refine ⟨zm.ok h4 (by decide), ?_⟩
    ((conv => whnf); repeat decreasing_trivial_pre_omega)
    refine ⟨_, _, _, _, _, 141, rfl, r0, by omega, (num_sz x0 x1 m2 h1).1, (num_sz y0 y1 m2 h2).1, (num_sz u0 u1 m2 h3).1, (num_sz v0 v1 m2 h4).1, fun a' b' hk' f1 f2 f3 f4 sa sb => ?_⟩
    ((conv => whnf); repeat decreasing_trivial_pre_omega)
    subst e1 e2 e3 e4
    exact reg_end q r0 (by omega) m1 m2 hk hw hk' f1 f2 f3 f4 sa sb
  · rw [decide_eq_false hw]
    obtain ⟨a1, b1, hk1, g1, g2, g3, g4, _, _⟩ := keys_ex (n := 20) (p := 1) (q := 0) (u := 1) (v := 0) r0 (by omega) (by decide) (by decide) (by decide) (by decide)
    have hw1 := reg_one m3 r0 (by omega) hk1 g1 g2 g3 g4
    ((conv => whnf); repeat decreasing_trivial_pre_omega)
    intro i1 h1
    refine ⟨zm.ok h1 (by decide), ?_⟩
    ((conv => whnf); repeat decreasing_trivial_pre_omega)
    intro i2 h2
    refine ⟨zm.ok h2 (by decide), ?_⟩
    ((conv => whnf); repeat decreasing_trivial_pre_omega)
    intro i3 h3
    refine ⟨zm.ok h3 (by decide), ?_⟩
    ((conv => whnf); repeat decreasing_trivial_pre_omega)
    intro i4 h4
    refine ⟨zm.ok h4 (by decide), ?_⟩
    ((conv => whnf); repeat decreasing_trivial_pre_omega)
    refine ⟨_, _, _, _, _, 141, rfl, r0, by omega, (num_sz (x := 1) (by decide) (by omega) m2 h1).1, (num_sz (x := 0) (by decide) (by omega) m2 h2).1, (num_sz (x := 1) (by decide) (by omega) m2 h3).1, (num_sz (x := 0) (by decide) (by omega) m2 h4).1, fun a' b' hk' f1 f2 f3 f4 sa sb => ?_⟩
    ((conv => whnf); repeat decreasing_trivial_pre_omega)
    exact reg_end (i1 := i1) (i2 := i2) (i3 := i3) (i4 := i4) q r0 (by omega) m1 m2 hk1 hw1 hk' (by omega) (by omega) (by omega) (by omega) sa sb
theorem bfs_succ (wl t : List Int) : ∀ (n : Nat) (L : List (List Int × List Int)), bfsT wl t (n + 1) L = (bfsT wl t n L).flatMap (stepT wl t)
  | 0, _ => rfl
  | n + 1, L => bfs_succ wl t n (L.flatMap (stepT wl t))
def bfsOk (wl s t : List Int) : Bool := decide ((unl s t).length ≤ 5) && (List.range 6).all fun j => decide ((bfsT wl t j [([], s)]).length ≤ 100) && (bfsT wl t j [([], s)]).all fun p => decide (p.1.length ≤ 5) && decide (p.2 ∈ sidesL wl)
theorem bfs_ok : ∀ wl ∈ WL, ∀ s ∈ sidesL wl, ∀ t ∈ sidesL wl, bfsOk wl s t = true := by decide +kernel
theorem bfs_in {wl s t : List Int} (hw : wl ∈ WL) (hs : s ∈ sidesL wl) (ht : t ∈ sidesL wl) : (unl s t).length ≤ 5 ∧ ∀ j, j < 6 → (bfsT wl t j [([], s)]).length ≤ 100 ∧ ∀ p ∈ bfsT wl t j [([], s)], p.1.length ≤ 5 ∧ p.2 ∈ sidesL wl := by
  have h := bfs_ok wl hw s hs t ht
  unfold bfsOk at h
  simp only [Bool.and_eq_true, decide_eq_true_eq, List.all_eq_true] at h
  exact ⟨h.1, fun j hj => h.2 j (List.mem_range.mpr hj)⟩
def pthD (p : List Int × List Int) : D := .tup [tD p.1, tD p.2]
theorem take_dirs {j : Nat} (h : j < 5) : dirs5.take (j + 1) = dirs5.take j ++ [(j : Int)] := by
  match j, h with
  | 0, _ => rfl
  | 1, _ => rfl
  | 2, _ => rfl
  | 3, _ => rfl
  | 4, _ => rfl
theorem fst_lc {Q : List D → Prop} {s0 s1 s2 s3 s4 s5 s6 s7 s8 : SV} : ∀ (L : List (List Int × List Int)) (acc : List D), acc.length + L.length ≤ sizeLine → Q (acc ++ (L.map Prod.fst).map tD) → lcG (ggTup [6, 7]) gYes (gVar 6) [6, 7] [s0, s1, s2, s3, s4, s5, s6, s7, s8] Q (L.map pthD) acc
  | [], acc, _, q => by simpa [lcG] using q
  | p :: L, acc, h, q => by
    simp only [List.length_cons] at h
    conv => whnf
    refine ⟨_, rfl, rfl, ?_⟩
    conv => whnf
    exact ⟨by omega, fst_lc L _ (by simp; omega) (by simpa using q)⟩
theorem len__law_turns : ∀ W ds Q R, sp__law_turns W ds Q R → ds.length = 3 := by
  rintro W ds Q R ⟨wl, s, t, rfl, _⟩
  rfl
theorem law__law_turns : ∀ W ds Q R, sp__law_turns W ds Q R → g__law_turns W R (endsD Q) (startD 9 ds) := by
  rintro W ds Q R ⟨wl, s, t, rfl, hw, hs, ht, q⟩
  have ls := sidesL_five _ hw s hs
  have lt := sidesL_five _ hw t ht
  obtain ⟨hn, hb⟩ := bfs_in hw hs ht
  unfold g__law_turns
  conv => whnf
  decreasing_trivial_pre_omega
  conv => whnf
  decreasing_trivial_pre_omega
  conv => whnf
  decreasing_trivial_pre_omega
  conv => whnf
  refine ⟨5, rfl, by decide, by decide, ?_⟩
  refine lc_fn (fun j => decide (at0 s j ≠ at0 t j)) dirs5 (by show 8 < 9; decide) (fun r hr Qd qd => ?_) (by decide) ?_
  · obtain ⟨r0, r4⟩ := dirs_in hr
    conv => whnf
    refine at_five ls r0 r4 ?_
    conv => whnf
    refine at_five lt r0 r4 ?_
    refine ⟨rfl, rfl, ?_⟩
    rw [eqb_int]
    simpa using qd
  · rw [show dirs5.filter (fun j => decide (at0 s j ≠ at0 t j)) = unl s t from rfl]
    conv => whnf
    refine ⟨(unl s t).length, by rw [List.length_map], by omega, by omega, ?_⟩
    refine forL_in ?_
    rw [Int.toNat_natCast]
    refine forG_rng (S := fun j σ => ∃ v4 v5 v6 v7 v8, σ = [.d (.lst ((sidesL wl).map tD)), .d (tD s), .d (tD t), .d (.lst ((bfsT wl t j [([], s)]).map pthD)), v4, v5, v6, v7, v8]) 0 _ _ ⟨_, _, _, _, _, rfl⟩ ?_ ?_
    · rintro σ ⟨v4, v5, v6, v7, v8, rfl⟩
      conv => whnf
      exact fst_lc _ [] (Nat.le_trans (by simpa using (hb _ (by omega)).1) (by decide : 100 ≤ sizeLine)) q
    · rintro j hj σ ⟨v4, v5, v6, v7, v8, rfl⟩ E' hrt hnx hct
      obtain ⟨hb1, hb2⟩ := hb j (by omega)
      have hb3 := (hb (j + 1) (by omega)).1
      rw [bfs_succ] at hb3
      conv => whnf
      decreasing_trivial_pre_omega
      conv => whnf
      refine forL_in ?_
      refine forG_inv (P := fun ys σ => ∃ done rest v4 v6 v7 v8, ys = rest.map pthD ∧ bfsT wl t j [([], s)] = done ++ rest ∧ σ = [.d (.lst ((sidesL wl).map tD)), .d (tD s), .d (tD t), .d (.lst ((bfsT wl t j [([], s)]).map pthD)), v4, .ol ((done.flatMap (stepT wl t)).map pthD), v6, v7, v8]) ?_ ?_ _ _ ⟨[], _, _, _, _, _, rfl, rfl, rfl⟩
      · rintro σ ⟨done, rest, v4, v6, v7, v8, e1, e2, rfl⟩
        conv => whnf
        have hd : done = bfsT wl t j [([], s)] := by
          cases rest with
          | nil => rw [e2, List.append_nil]
          | cons p rest => cases e1
        refine' hnx _ ⟨_, _, _, _, _, ?_⟩
        rotate_left 5
        rw [bfs_succ, ← hd]
        rfl
      · rintro y ys σ ⟨done, rest, v4, v6, v7, v8, e1, e2, rfl⟩ E'' hrt' hbk' hnx' hct'
        cases rest with
        | nil => cases e1
        | cons p rest =>
        obtain ⟨rfl, rfl⟩ := List.cons.inj e1
        obtain ⟨hp1, hp2⟩ := hb2 p (by rw [e2]; simp)
        have lp := sidesL_five _ hw p.2 hp2
        have hln : (done.flatMap (stepT wl t)).length + (stepT wl t p).length ≤ 100 := by
          rw [e2] at hb3
          simp only [List.flatMap_append, List.flatMap_cons, List.length_append] at hb3
          omega
        obtain ⟨c, hc⟩ : ∃ c : Int → Bool, c = fun r => decide (at0 p.2 r ≠ at0 t r) && decide (chg p.2 r ∈ sidesL wl) := ⟨_, rfl⟩
        have hst : stepT wl t p = (dirs5.filter c).map fun r => (p.1 ++ [r], chg p.2 r) := by rw [hc]; rfl
        conv => whnf
        refine ⟨_, rfl, rfl, ?_⟩
        conv => whnf
        refine ⟨5, rfl, by decide, by decide, ?_⟩
        refine forL_in ?_
        refine forG_rng (S := fun i σ => ∃ v8, σ = [.d (.lst ((sidesL wl).map tD)), .d (tD s), .d (tD t), .d (.lst ((bfsT wl t j [([], s)]).map pthD)), v4, .ol ((done.flatMap (stepT wl t) ++ ((dirs5.take i).filter c).map fun r => (p.1 ++ [r], chg p.2 r)).map pthD), .d (tD p.1), .d (tD p.2), v8]) 0 5 _ ⟨v8, ?_⟩ ?_ ?_
        · have e0 : ∀ X : List (List Int × List Int), X ++ ((dirs5.take 0).filter c).map (fun r => (p.1 ++ [r], chg p.2 r)) = X := fun X => List.append_nil X
          rw [e0]
          rfl
        · rintro σ ⟨v8, rfl⟩
          refine hnx' _ ⟨done ++ [p], rest, v4, .d (tD p.1), .d (tD p.2), v8, rfl, by rw [e2]; simp, ?_⟩
          rw [List.flatMap_append, List.flatMap_singleton, hst]
          rfl
        · rintro i hi σ ⟨v8, rfl⟩ E3 hrt3 hnx3 hct3
          rw [Int.zero_add]
          have i0 : (0 : Int) ≤ (i : Nat) := by omega
          have i4 : ((i : Nat) : Int) ≤ 4 := by omega
          have et := take_dirs hi
          conv => whnf
          refine at_five lp i0 i4 ?_
          conv => whnf
          refine at_five lt i0 i4 ?_
          refine ⟨rfl, rfl, ?_⟩
          rw [eqb_int]
          by_cases hne : at0 p.2 i = at0 t i
          · have e6 : [((i : Nat) : Int)].filter c = [] := by simp [hc, hne]
            rw [decide_eq_true hne]
            conv => whnf
            refine hnx3 _ ⟨.d (.int i), ?_⟩
            rw [et, List.filter_append, e6, List.append_nil]
            rfl
          · rw [decide_eq_false hne]
            conv => whnf
            refine ⟨p.2, i, rfl, lp, i0, i4, ?_⟩
            refine ⟨pl_tD 63 _, (pl_tDs 62 _).2, ?_⟩
            conv => whnf
            rw [inb_tD]
            by_cases hm : chg p.2 i ∈ sidesL wl
            · have e6 : [((i : Nat) : Int)].filter c = [(i : Int)] := by simp [hc, hne, hm]
              rw [decide_eq_true hm]
              conv => whnf
              refine ⟨_, rfl, ?_⟩
              ((conv => whnf); repeat decreasing_trivial_pre_omega)
              refine ⟨Nat.le_trans (by simp; omega : _ ≤ 10) (by decide), ?_⟩
              conv => whnf
              refine ⟨p.2, i, rfl, lp, i0, i4, ?_⟩
              conv => whnf
              decreasing_trivial_pre_omega
              have hl2 : ((dirs5.take i).filter c).length ≤ 5 := Nat.le_trans (List.length_filter_le _ _) (by simp [dirs5]; omega)
              refine ⟨?_, hnx3 _ ⟨.d (.int i), ?_⟩⟩
              · refine Nat.lt_of_le_of_lt (m := 200) ?_ (by decide)
                rw [List.length_map, List.length_append, List.length_map]
                omega
              · have eX : (done.flatMap (stepT wl t) ++ ((dirs5.take i).filter c).map fun r => (p.1 ++ [r], chg p.2 r)).map pthD ++ [.tup [.tup (p.1.map D.int ++ [.int i]), tD (chg p.2 i)]] = (done.flatMap (stepT wl t) ++ ((dirs5.take (i + 1)).filter c).map fun r => (p.1 ++ [r], chg p.2 r)).map pthD := by
                  rw [et, List.filter_append, e6, show D.tup [.tup (p.1.map D.int ++ [.int i]), tD (chg p.2 i)] = pthD (p.1 ++ [(i : Int)], chg p.2 i) from by simp [pthD, tD]]
                  simp only [List.map_append, List.map_cons, List.map_nil, List.append_assoc]
                rw [← eX]
                rfl
            · have e6 : [((i : Nat) : Int)].filter c = [] := by simp [hc, hm]
              rw [decide_eq_false hm]
              conv => whnf
              refine hnx3 _ ⟨.d (.int i), ?_⟩
              rw [et, List.filter_append, e6, List.append_nil]
              rfl
/-- on round the ring: the last turn and the side, n steps on -/
def ringN : Nat → Int → List Int → Int × List Int
  | 0, r, s => (r, s)
  | n + 1, r, s => match ((worms dirs5 (ringN n r s).2).filter fun x => decide (x ≠ (ringN n r s).1)).head? with
    | some x => (x, chg (ringN n r s).2 x)
    | none => ringN n r s
def ringOk (s : List Int) (r : Int) (j : Nat) : Bool :=
  decide ((ringN j r (chg s r)).2 ∈ ten5) && (match (worms dirs5 (ringN j r (chg s r)).2).filter fun x => decide (x ≠ (ringN j r (chg s r)).1) with
    | [x] => decide (x ∈ worms dirs5 (ringN j r (chg s r)).2)
    | _ => false) && (if j = 4 then decide ((ringN j r (chg s r)).2 = neg5 s) else true) && (if j < 9 then decide ((ringN j r (chg s r)).2 ≠ s) else decide ((ringN j r (chg s r)).2 = s))
theorem ring_ok : ∀ s ∈ ten5, ∀ r ∈ worms dirs5 s, ∀ j ∈ List.range 10, ringOk s r j = true := by decide +kernel
theorem ring_in {s : List Int} {r : Int} {j : Nat} (hs : s ∈ ten5) (hr : r ∈ worms dirs5 s) (hj : j < 10) : (ringN j r (chg s r)).2 ∈ ten5 ∧ (∃ x, ((worms dirs5 (ringN j r (chg s r)).2).filter fun x => decide (x ≠ (ringN j r (chg s r)).1)) = [x] ∧ x ∈ worms dirs5 (ringN j r (chg s r)).2 ∧ ringN (j + 1) r (chg s r) = (x, chg (ringN j r (chg s r)).2 x)) ∧ (j = 4 → (ringN j r (chg s r)).2 = neg5 s) ∧ (j < 9 → (ringN j r (chg s r)).2 ≠ s) ∧ (j = 9 → (ringN j r (chg s r)).2 = s) := by
  have h := ring_ok s hs r hr j (List.mem_range.mpr hj)
  unfold ringOk at h
  simp only [Bool.and_eq_true, decide_eq_true_eq] at h
  obtain ⟨⟨⟨h1, h2⟩, h3⟩, h4⟩ := h
  refine ⟨h1, ?_, fun e => ?_, fun e => ?_, fun e => ?_⟩
  · split at h2
    · rename_i x e
      refine ⟨x, e, of_decide_eq_true h2, ?_⟩
      show (match ((worms dirs5 (ringN j r (chg s r)).2).filter fun x => decide (x ≠ (ringN j r (chg s r)).1)).head? with
        | some x => (x, chg (ringN j r (chg s r)).2 x)
        | none => ringN j r (chg s r)) = _
      rw [e]
      rfl
    · cases h2
  · rw [if_pos e] at h3
    exact of_decide_eq_true h3
  · rw [if_pos e] at h4
    exact of_decide_eq_true h4
  · rw [if_neg (by omega)] at h4
    exact of_decide_eq_true h4
theorem ways_lc {Q : List D → Prop} {s0 s1 s2 s4 s5 s6 s7 s8 s9 : SV} {last : Int} {u : List Int} : ∀ (L : List Int) (acc : List D), acc.length + L.length ≤ sizeLine → Q (acc ++ (L.filter fun r => decide (r ≠ last)).map D.int) → lcG (ggTup [7, 8]) (gB (gBin neD (gVar 7) (gVar 3))) (gVar 7) [7, 8] [s0, s1, s2, .d (.int last), s4, s5, s6, s7, s8, s9] Q (L.map fun r => .tup [.int r, tD (chg u r)]) acc
  | [], acc, _, q => by simpa [lcG] using q
  | r :: L, acc, h, q => by
    simp only [List.length_cons] at h
    conv => whnf
    refine ⟨_, rfl, rfl, ?_⟩
    conv => whnf
    refine ⟨rfl, rfl, ?_⟩
    rw [eqb_int]
    by_cases hr : r = last
    · rw [decide_eq_true hr]
      conv => whnf
      exact ways_lc L _ (by omega) (by simpa [hr] using q)
    · rw [decide_eq_false hr]
      conv => whnf
      exact ⟨by omega, ways_lc L _ (by simp; omega) (by simpa [hr] using q)⟩
theorem ten_wl {wl : List Int} (hw : wl ∈ WL) (h : (sidesL wl).length = 10) : wl = dirs5 := by
  revert wl
  decide
theorem rok_sides : ∀ wl ∈ WL, ∀ t ∈ sidesL wl, Rok (tD t) := by
  unfold Rok
  decide +kernel
def negD' : D → D
  | .int i => .int (-i)
  | y => y
theorem neg_map (s : List Int) : (s.map D.int).map negD' = (neg5 s).map D.int := by
  simp [neg5, negD', Function.comp_def]
theorem flo_eq {W : WD} {a b : Int → Int} {m : Int} {s t : List Int} {K : Bool → Prop} (q : K (decide (s = t))) : ∃ sp, eqsO (Str.ofString "Floor") = some sp ∧ sp W [flo (keyD a b m) s, flo (keyD a b m) t] (fun r => isBl r fun b => K b) fun _ => False :=
  ⟨sp_Floor__eq, rfl, _, s, keyD a b m, t, rfl, pl_keyD 62 a b m, pl_keyD 62 a b m, by
    rw [show (D.tup _) = keyD a b m from rfl, eqb_refl (pl_keyD 62 a b m), if_pos rfl]
    show isBl (.bl (decide (s = t))) fun b => K b
    exact q⟩
def RingP (s : List Int) : Nat → Int → List Int → Prop
  | 0, l, u => l = 9 ∧ u = s
  | j + 1, l, u => ∃ r, r ∈ worms dirs5 s ∧ (l, u) = ringN j r (chg s r)
theorem nine_out : ∀ u ∈ ten5, (worms dirs5 u).filter (fun r => decide (r ≠ 9)) = worms dirs5 u ∧ 0 < (worms dirs5 u).length := by decide +kernel
theorem RingP.go {s u : List Int} {l : Int} {j : Nat} (hs : s ∈ ten5) (h : RingP s j l u) (hj : j < 10) : u ∈ ten5 ∧ 0 < ((worms dirs5 u).filter fun r => decide (r ≠ l)).length ∧ (0 < j → ((worms dirs5 u).filter fun r => decide (r ≠ l)).length = 1) ∧ ∀ x, x ∈ ((worms dirs5 u).filter fun r => decide (r ≠ l)) → x ∈ worms dirs5 u ∧ RingP s (j + 1) x (chg u x) := by
  cases j with
  | zero =>
    obtain ⟨rfl, rfl⟩ := h
    obtain ⟨e, e2⟩ := nine_out u hs
    rw [e]
    exact ⟨hs, e2, fun z => absurd z (by decide), fun x hx => ⟨hx, x, hx, rfl⟩⟩
  | succ j =>
    obtain ⟨r, hr, e⟩ := h
    obtain ⟨h1, ⟨x, h2, h3, h4⟩, _⟩ := ring_in hs hr (by omega : j < 10)
    rw [← e] at h1 h2 h3 h4
    rw [h2]
    refine ⟨h1, by simp, fun _ => rfl, fun y hy => ?_⟩
    rw [List.mem_singleton] at hy
    subst hy
    exact ⟨h3, r, hr, h4.symm⟩
theorem RingP.at {s u : List Int} {l : Int} {j : Nat} (hs : s ∈ ten5) (h : RingP s (j + 1) l u) (hj : j < 10) : u ∈ ten5 ∧ (j = 4 → u = neg5 s) ∧ (j < 9 → u ≠ s) ∧ (j = 9 → u = s) := by
  obtain ⟨r, hr, e⟩ := h
  obtain ⟨h1, _, h3, h4, h5⟩ := ring_in hs hr hj
  rw [← e] at h1 h3 h4 h5
  exact ⟨h1, h3, h4, h5⟩
theorem len__law_is_ring : ∀ W ds Q R, sp__law_is_ring W ds Q R → ds.length = 2 := by
  rintro W ds Q R ⟨d, l, a, b, m, s, _, rfl, _⟩
  rfl
theorem law__law_is_ring : ∀ W ds Q R, sp__law_is_ring W ds Q R → g__law_is_ring W R (endsD Q) (startD 10 ds) := by
  rintro W ds Q R ⟨d, l, a, b, m, s, rfl, rfl, ⟨h, hs⟩, h10, q⟩
  have k4 := h.up (by decide : 1000 ≤ 4000)
  have hw := ten_wl (whL_mem (d := m) h.r) h10
  have fl : ∀ u ∈ ten5, FlD (flo (keyD a b m) u) a b m u := fun u hu => ⟨rfl, k4, by rw [hw]; exact hu⟩
  rw [hw] at hs
  have ht : s ∈ ten5 := hs
  unfold g__law_is_ring
  conv => whnf
  refine fld_s ?_
  conv => whnf
  decreasing_trivial_pre_omega
  conv => whnf
  refine ⟨_, rfl, rfl, ?_⟩
  conv => whnf
  refine ⟨10, rfl, by decide, by decide, ?_⟩
  refine forL_in ?_
  refine forG_rng (S := fun j σ => ∃ la u v5 v6 v7 v8 v9, RingP s j la u ∧ σ = [.d (dkD d), .d (flo (keyD a b m) s), .d (flo (keyD a b m) u), .d (.int la), .d (tD s), v5, v6, v7, v8, v9]) 0 10 _ ⟨9, s, _, _, _, _, _, ⟨rfl, rfl⟩, rfl⟩ ?_ ?_
  · rintro σ ⟨la, u, v5, v6, v7, v8, v9, hu, rfl⟩
    obtain ⟨_, _, _, h9⟩ := hu.at ht (by decide)
    have e9 := h9 rfl
    subst e9
    conv => whnf
    refine flo_eq ?_
    rw [decide_eq_true rfl]
    conv => whnf
    exact .inl ⟨_, rfl, rok_b true, q⟩
  · rintro j hj σ ⟨la, u, v5, v6, v7, v8, v9, hp, rfl⟩ E' hrt hnx hct
    obtain ⟨hu, g1, g2, g3⟩ := hp.go ht hj
    rw [Int.zero_add]
    conv => whnf
    refine ⟨_, a, b, m, u, rfl, fl u hu, ?_⟩
    rw [hw]
    have w5 : (worms dirs5 u).length ≤ 5 := List.length_filter_le _ _
    refine ways_lc _ [] (Nat.le_trans (by simpa using w5) (by decide : 5 ≤ sizeLine)) ?_
    rw [List.nil_append]
    conv => whnf
    refine ⟨rfl, rfl, ?_⟩
    conv => whnf
    rw [eqb_int]
    generalize hW : (worms dirs5 u).filter (fun r => decide (r ≠ la)) = wy at g1 g2 g3 ⊢
    have gl : (wy.map D.int).length < 2 ^ 62 := by
      rw [List.length_map, ← hW]
      exact Nat.lt_of_le_of_lt (Nat.le_trans (List.length_filter_le _ _) w5) (by decide)
    by_cases h0 : ((j : Nat) : Int) = 0
    case' pos =>
      rw [decide_eq_true h0]
      conv => whnf
      refine ⟨d, l, _, rfl, .inl rfl, by rw [List.length_map]; exact g1, gl, fun z hz => ?_⟩
      obtain ⟨x, hx, rfl⟩ := List.mem_map.mp hz
      have g4 := g3 x hx
    case' neg =>
      rw [decide_eq_false h0]
      conv => whnf
      obtain ⟨x, hx⟩ := List.length_eq_one_iff.mp (g2 (by omega))
      have g4 := g3 x (by rw [hx]; simp)
      refine ⟨.int x, by rw [hx]; rfl, ?_⟩
    all_goals
      obtain ⟨hx, hp'⟩ := g4
      have hx' : x ∈ worms (whL a b m) u := by rw [hw]; exact hx
      obtain ⟨hu', k4', kn, _⟩ := hp'.at ht hj
      conv => whnf
      refine ⟨_, _, a, b, m, u, rfl, fl u hu, rfl, ?_, ?_⟩
      · intro z
        rw [isDir_yes (worms_dir hx').1.1 (worms_dir hx').1.2] at z
        cases z
      · rintro _ ⟨⟩ _ _
        rw [if_pos hx']
        conv => whnf
        refine ⟨rfl, rfl, ?_⟩
        conv => whnf
        rw [eqb_int]
        by_cases h4 : ((j : Nat) : Int) = 4
        case' pos =>
          have e4 := k4' (by omega)
          rw [decide_eq_true h4]
          conv => whnf
          refine fld_s ?_
          refine lc_map negD' (by show 9 < 10; decide) _ [] (fun y hy Qd qd => ?_) (by show 0 + (s.map D.int).length ≤ sizeLine; rw [List.length_map, Nat.zero_add, sidesL_five dirs5 (by decide) s hs]; decide) ?_
          · obtain ⟨i, _, rfl⟩ := List.mem_map.mp hy
            conv => whnf
            exact qd
          rw [List.nil_append, neg_map, e4]
          conv => whnf
          refine .inl ⟨_, rfl, rok_sides dirs5 (by decide) _ (by rw [← e4]; exact hu'), ?_⟩
          conv => whnf
        case' neg =>
          rw [decide_eq_false h4]
          conv => whnf
        all_goals
          by_cases h9 : ((j : Nat) : Int) < 9
          case' pos =>
            rw [decide_eq_true h9]
            conv => whnf
            refine flo_eq ?_
            rw [decide_eq_false (by first | exact kn (by omega) | (rw [← e4]; exact kn (by omega)))]
            conv => whnf
            refine .inr ⟨rfl, ?_⟩
            conv => whnf
          case' neg =>
            rw [decide_eq_false h9]
            conv => whnf
          all_goals
            refine hnx _ ⟨x, chg u x, .d (.int j), .d (.lst (wy.map .int)), v7, v8, v9, hp', ?_⟩
            first | rfl | (rw [e4]; rfl)
def wormsD (wl s : List Int) : List D := (worms wl s).map fun r => .tup [.int r, tD (chg s r)]
theorem rok_worms : ∀ wl ∈ WL, ∀ s ∈ sidesL wl, Rok (.tup (wormsD wl s)) := by
  unfold Rok
  decide +kernel
theorem len__law_is_floor_right : ∀ W ds Q R, sp__law_is_floor_right W ds Q R → ds.length = 3 := by
  rintro W ds Q R ⟨d, l, a, b, m, s, _, rfl, _⟩
  rfl
theorem worms_lc {W : WD} {s : List Int} (hl : s.length = 5) {Q : List D → Prop} {s0 s1 s2 s3 s4 s6 s7 s8 s9 s10 s11 s12 : SV} : ∀ (L : List Int) (acc : List D), (∀ r ∈ L, 0 ≤ r ∧ r ≤ 4) → acc.length + L.length ≤ sizeLine → Q (acc ++ L.map fun r => .tup [.int r, tD (chg s r)]) → lcG (ggName 7) gYes (ND.gTup (ND.gCons (gVar 7) (ND.gCons (gCall sp__law_changed W (fun _ => False) (ND.gCons (gVar 5) (ND.gCons (gVar 7) ND.gNil))) ND.gNil))) [7] [s0, s1, s2, s3, s4, .d (tD s), s6, s7, s8, s9, s10, s11, s12] Q (L.map D.int) acc
  | [], acc, _, _, q => by simpa [lcG] using q
  | r :: L, acc, hr, h, q => by
    simp only [List.length_cons] at h
    conv => whnf
    refine ⟨s, r, rfl, hl, (hr r (by simp)).1, (hr r (by simp)).2, ?_⟩
    conv => whnf
    decreasing_trivial_pre_omega
    exact ⟨by omega, worms_lc hl L _ (fun x hx => hr x (List.mem_cons_of_mem _ hx)) (by simp; omega) (by simpa using q)⟩
def oddR (s : List Int) : List D := [.int 5, .int (-1), .bl true, .bl false, .non, .str "0", .tup [.int 0], .lst [.int 1], .int (10 ^ 30), .dic [], .str "near", tD s, .tup [.int 1, tD s], .int 7, .int (-4), .str ""]
theorem turned_bad {a b : Int → Int} {d : Int} {s : List Int} {y : D} (h : isDir y = false) : turnedD a b d s y = .tup [.str "BadDirection", y] := by
  cases y with
  | int r => exact if_neg (of_decide_eq_false h)
  | _ => rfl
theorem oddR_ok : ∀ wl ∈ WL, ∀ s ∈ sidesL wl, ∀ z ∈ oddR s, isDir z = false ∧ Rok (.tup [.str "BadDirection", z]) := by
  unfold Rok
  decide +kernel
theorem oddR_ty (s : List Int) : ∀ z ∈ oddR s, TyK z := by
  intro z hz
  simp only [oddR, List.mem_cons, List.not_mem_nil, or_false] at hz
  rcases hz with rfl | rfl | rfl | rfl | rfl | rfl | rfl | rfl | rfl | rfl | rfl | rfl | rfl | rfl | rfl | rfl <;> rfl
theorem side_el : ∀ wl ∈ WL, ∀ s ∈ sidesL wl, ∀ e ∈ s, -1 ≤ e ∧ e ≤ 1 := by decide +kernel
def oddS (s : List Int) : List D := [.lst (s.map .int), .tup ((s.map .int).take 4), .tup (s.map .int ++ [.int 0]), .tup [.int 2, .int 0, .int 0, .int 0, .int 0], .tup (s.map fun e => .bl (decide (0 < e))), .non, .str "+-++-", .int 1, .tup [], .dic [], tD [1, 1, 1, 1, 1], tD [1, 1, 0, 0, 0], tD [1, 1, -1, -1, 1], .tup [tD [1, -1, 1, 1, -1]], .tup (s.map fun e => .int (2 * e + 1)), .tup [.bl true, .int (-1), .int 1, .int 1, .int (-1)], tD [-1, -1, -1, -1, -1], tD [1, -1, 1, 1, 0], .tup [.bl false, .int 0, .int 0, .int 0, .int 0], .tup [.non, .int 0, .int 0, .int 0, .int 0]]
theorem oddS_ok : ∀ wl ∈ WL, ∀ s ∈ sidesL wl, ∀ z ∈ oddS s, isSide wl z = false ∧ Rok (.tup [.str "NoSuchSide", z]) := by
  unfold Rok
  decide +kernel
theorem oddS_ty {s : List Int} (hl : s.length = 5) : ∀ z ∈ oddS s, TyK1 z := by
  obtain ⟨e0, e1, e2, e3, e4, rfl⟩ := five_list hl
  intro z hz
  simp only [oddS, List.mem_cons, List.not_mem_nil, or_false] at hz
  rcases hz with rfl | rfl | rfl | rfl | rfl | rfl | rfl | rfl | rfl | rfl | rfl | rfl | rfl | rfl | rfl | rfl | rfl | rfl | rfl | rfl
  all_goals
    refine ⟨rfl, fun xs e => ?_⟩
    first
    | (cases e; done)
    | (cases e
       repeat refine List.forall_mem_cons.mpr ⟨rfl, ?_⟩
       exact fun _ h => absurd h List.not_mem_nil)
theorem law__law_is_floor_right : ∀ W ds Q R, sp__law_is_floor_right W ds Q R → g__law_is_floor_right W R (endsD Q) (startD 13 ds) := by
  rintro W ds Q R ⟨d, l, a, b, m, s, rfl, rfl, ⟨h, hs⟩, q⟩
  have k4 := h.up (by decide : 1000 ≤ 4000)
  have hw := whL_mem (d := m) h.r
  have hf : FlD (flo (keyD a b m) s) a b m s := ⟨rfl, k4, hs⟩
  have hl := hf.len
  unfold g__law_is_floor_right
  conv => whnf
  refine ⟨_, rfl, rfl, ?_⟩
  conv => whnf
  refine ⟨a, b, m, s, rfl, ⟨h, hs⟩, ?_⟩
  conv => whnf
  refine ⟨_, a, b, m, s, rfl, hf, ?_⟩
  conv => whnf
  refine worms_lc hl _ [] (fun r hr => (worms_dir hr).1) (Nat.le_trans (by simpa using worms_len a b m s) (by decide : 5 ≤ sizeLine)) ?_
  conv => whnf
  refine .inl ⟨_, rfl, rok_worms _ hw _ hs, ?_⟩
  conv => whnf
  refine ⟨5, rfl, by decide, by decide, ?_⟩
  refine forL_in ?_
  refine forG_rng (S := fun j σ => ∃ v7 v10, σ = [.d (dkD d), .d (wrl a b m s), .d (flo (keyD a b m) s), .d (.int m), .d (keysP a b), .d (tD s), .d (.lst ((worms (whL a b m) s).map .int)), v7, .no, .no, v10, .no, .no]) 0 5 _ ⟨_, _, rfl⟩ ?_ ?_
  · rintro σ ⟨v7, v10, rfl⟩
    have pick1 : ∀ z ∈ oddR s, TyK z ∧ turnedD a b m s z = .tup [.str "BadDirection", z] ∧ Rok (.tup [.str "BadDirection", z]) := fun z hz => by
      obtain ⟨h1, h2⟩ := oddR_ok _ hw _ hs z hz
      exact ⟨oddR_ty s z hz, turned_bad h1, h2⟩
    ((conv => whnf); repeat decreasing_trivial_pre_omega)
    refine forL_in ?_
    refine forG_rng (S := fun j σ => ∃ v8 v9 v11, (v8 = .ol (oddR s) ∨ v8 = .d (.lst (oddR s))) ∧ σ = [.d (dkD d), .d (wrl a b m s), .d (flo (keyD a b m) s), .d (.int m), .d (keysP a b), .d (tD s), .d (.lst ((worms (whL a b m) s).map .int)), v7, v8, v9, v10, v11, .no]) 0 2 _ ⟨_, _, _, .inl rfl, rfl⟩ ?_ ?_
    · rintro σ ⟨v8, v9, v11, hv8, rfl⟩
      clear hv8
      obtain ⟨e0, e1, e2, e3, e4, rfl⟩ := five_list hl
      have se : ∀ e ∈ [e0, e1, e2, e3, e4], MulOk 2 e := fun e he => by
        obtain ⟨l1, l2⟩ := side_el _ hw _ hs e he
        exact (Sz.small (i := 2) (by decide) (by decide)).ok (Sz.small (i := e) (by omega) (by omega)) (by decide)
      ((conv => whnf); repeat decreasing_trivial_pre_omega)
      refine ⟨se e0 (by simp), ?_⟩
      ((conv => whnf); repeat decreasing_trivial_pre_omega)
      refine ⟨se e1 (by simp), ?_⟩
      ((conv => whnf); repeat decreasing_trivial_pre_omega)
      refine ⟨se e2 (by simp), ?_⟩
      ((conv => whnf); repeat decreasing_trivial_pre_omega)
      refine ⟨se e3 (by simp), ?_⟩
      ((conv => whnf); repeat decreasing_trivial_pre_omega)
      refine ⟨se e4 (by simp), ?_⟩
      ((conv => whnf); repeat decreasing_trivial_pre_omega)
      have pick2 : ∀ z ∈ oddS [e0, e1, e2, e3, e4], TyK1 z ∧ isSide (whL a b m) z = false ∧ Rok (.tup [.str "NoSuchSide", z]) := fun z hz => ⟨oddS_ty hl z hz, oddS_ok _ hw _ hs z hz⟩
      refine forL_in ?_
      refine forG_rng (S := fun j σ => ∃ v8 v9 v11, (v8 = .ol (oddS [e0, e1, e2, e3, e4]) ∨ v8 = .d (.lst (oddS [e0, e1, e2, e3, e4]))) ∧ σ = [.d (dkD d), .d (wrl a b m [e0, e1, e2, e3, e4]), .d (flo (keyD a b m) [e0, e1, e2, e3, e4]), .d (.int m), .d (keysP a b), .d (tD [e0, e1, e2, e3, e4]), .d (.lst ((worms (whL a b m) [e0, e1, e2, e3, e4]).map .int)), v7, v8, v9, v10, v11, .no]) 0 2 _ ⟨_, _, _, .inl rfl, rfl⟩ ?_ ?_
      · rintro σ ⟨v8, v9, v11, hv8, rfl⟩
        conv => whnf
        exact q
      · rintro j hj σ ⟨v8, v9, v11, hv8, rfl⟩ E' hrt hnx hct
        rcases hv8 with rfl | rfl
        all_goals
          conv => whnf
          refine ⟨d, l, oddS [e0, e1, e2, e3, e4], rfl, .inl rfl, (by show 0 < 20; decide), (by show 20 < 2 ^ 62; decide), fun z hz => ?_⟩
          obtain ⟨p1, p2, p3⟩ := pick2 z hz
          conv => whnf
          refine ⟨_, _, a, b, m, [e0, e1, e2, e3, e4], rfl, hf, p1, fun _ => ?_, fun t et ht => ?_⟩
          · conv => whnf
            decreasing_trivial_pre_omega
            refine .inl ⟨_, rfl, p3, ?_⟩
            conv => whnf
            exact hnx _ ⟨_, _, _, .inr rfl, rfl⟩
          · rw [et, isSide_yes hw ht] at p2
            cases p2
    · rintro j hj σ ⟨v8, v9, v11, hv8, rfl⟩ E' hrt hnx hct
      rcases hv8 with rfl | rfl
      all_goals
        conv => whnf
        refine ⟨d, l, oddR s, rfl, .inl rfl, (by decide : 0 < 16), (by decide : 16 < 2 ^ 62), fun z hz => ?_⟩
        obtain ⟨p1, p2, p3⟩ := pick1 z hz
        conv => whnf
        refine ⟨_, _, a, b, m, s, rfl, hf, p1, ?_⟩
        rw [p2]
        conv => whnf
        decreasing_trivial_pre_omega
        refine .inl ⟨_, rfl, p3, ?_⟩
        conv => whnf
        exact hnx _ ⟨_, _, _, .inr rfl, rfl⟩
  · rintro j hj σ ⟨v7, v10, rfl⟩ E' hrt hnx hct
    rw [Int.zero_add]
    have j0 : (0 : Int) ≤ (j : Nat) := by omega
    have j4 : ((j : Nat) : Int) ≤ 4 := by omega
    conv => whnf
    decreasing_trivial_pre_omega
    conv => whnf
    refine ⟨rfl, pl_il 63 _, ?_⟩
    conv => whnf
    rw [inb_i]
    by_cases hm : ((j : Nat) : Int) ∈ worms (whL a b m) s
    · rw [decide_eq_true hm]
      conv => whnf
      refine ⟨s, j, rfl, hl, j0, j4, ?_⟩
      conv => whnf
      decreasing_trivial_pre_omega
      conv => whnf
      refine ⟨d, l, a, b, m, chg s j, rfl, rfl, ⟨h, (worms_dir hm).2⟩, ?_⟩
      conv => whnf
      refine ⟨_, _, a, b, m, s, rfl, hf, rfl, ?_⟩
      rw [show turnedD a b m s (.int j) = flo (keyD a b m) (chg s j) from by simp [turnedD, j0, j4, hm]]
      conv => whnf
      refine flo_eq ?_
      rw [decide_eq_true rfl]
      conv => whnf
      refine .inl ⟨_, rfl, rok_b true, ?_⟩
      conv => whnf
      exact hnx _ ⟨_, _, rfl⟩
    · rw [decide_eq_false hm]
      conv => whnf
      refine ⟨_, _, a, b, m, s, rfl, hf, rfl, ?_⟩
      rw [show turnedD a b m s (.int j) = .tup [.str "NoWorm", .int j] from by simp [turnedD, j0, j4, hm]]
      conv => whnf
      have ep : pl 64 (.tup [.str "NoWorm", .int j]) = true := by simp only [pl, pls, Bool.and_true]; decide +kernel
      refine ⟨ep, ep, ?_⟩
      rw [eqb_refl ep]
      conv => whnf
      refine .inl ⟨_, rfl, rok_b true, ?_⟩
      conv => whnf
      exact hnx _ ⟨_, _, rfl⟩
mutual
theorem toPy_nest : ∀ (y x : D), nest (toPy y) = true → toPy x = toPy y → x = y
  | .int j, x, _, e => by
    cases x <;> simp [toPy] at e
    rw [e]
  | .tup ys, x, n, e => by
    cases x with
    | tup xs =>
      simp only [toPy, nest] at n e
      injection e with e
      rw [toPy_nests ys xs n e]
    | _ => simp [toPy] at e
  | .non, _, n, _ => by simp [toPy, nest] at n
  | .bl _, _, n, _ => by simp [toPy, nest] at n
  | .str _, _, n, _ => by simp [toPy, nest] at n
  | .lst _, _, n, _ => by simp [toPy, nest] at n
  | .dic _, _, n, _ => by simp [toPy, nest] at n
  | .obj _ _, _, n, _ => by simp [toPy, nest] at n
  | .opq _, _, n, _ => by simp [toPy, nest] at n
theorem toPy_nests : ∀ (ys xs : List D), nests (toPys ys) = true → toPys xs = toPys ys → xs = ys
  | [], xs, _, e => by cases xs <;> simp [toPys] at e; rfl
  | y :: ys, xs, n, e => by
    cases xs with
    | nil => simp [toPys] at e
    | cons x xs =>
      simp only [toPys, nests, Bool.and_eq_true, List.cons.injEq] at n e
      rw [toPy_nest y x n.1 e.1, toPy_nests ys xs n.2 e.2]
end
theorem nests_ints : ∀ p : List Int, nests (toPys (p.map D.int)) = true
  | [] => rfl
  | i :: p => by
    simp only [List.map_cons, toPys, nests, Bool.and_eq_true]
    exact ⟨rfl, nests_ints p⟩
theorem nest_tD (p : List Int) : nest (toPy (tD p)) = true := nests_ints p
theorem shown_tD {z : D} {p : List Int} (h : (toPy z).shown = (toPy (tD p)).shown) : z = tD p := toPy_nest _ _ (nest_tD p) (shown_inj (nest_tD p) h)
def walksT (wl : List Int) : Nat → List Int → List (List Int)
  | 0, _ => [[]]
  | n + 1, s => (worms wl s).flatMap fun r => (walksT wl n (chg s r)).map (r :: ·)
theorem walk_mem {wl t : List Int} : ∀ (p s : List Int), walkB wl t s p = true → p ∈ walksT wl p.length s
  | [], _, _ => by simp [walksT]
  | r :: p, s, h => by
    unfold walkB at h
    split at h
    · rename_i hr
      exact List.mem_flatMap.mpr ⟨r, hr, List.mem_map.mpr ⟨p, walk_mem p _ h, rfl⟩⟩
    · cases h
/-- the turns that lead from side to side -/
def allR : List (List Int) := [[], [0], [1], [2], [3], [4], [1, 2], [1, 2, 3, 4], [1, 2, 3], [0, 4, 3, 2], [0, 4], [0, 4, 3], [0, 4, 3, 2, 1], [1, 2, 3, 4, 0], [2, 1], [3, 4], [3, 4, 0, 1], [2, 1, 0, 4], [2, 1, 0], [2, 1, 0, 4, 3], [3, 4, 0, 1, 2], [3, 4, 0], [4, 3, 2, 1], [4, 3], [4, 3, 2], [0, 1], [0, 1, 2, 3], [0, 1, 2, 3, 4], [4, 3, 2, 1, 0], [0, 1, 2], [3, 2, 1], [3, 2], [4, 0, 1], [3, 2, 1, 0, 4], [4, 0, 1, 2, 3], [3, 2, 1, 0], [4, 0, 1, 2], [4, 0], [2, 3, 4], [2, 3], [1, 0, 4, 3, 2], [2, 3, 4, 0, 1], [1, 0, 4], [1, 0], [1, 0, 4, 3], [2, 3, 4, 0]]
def turnsOk (wl s t : List Int) : Bool := ((walksT wl (unl s t).length s).all fun p => !(walkB wl t s p) || decide (p ∈ rightsT wl s t)) && (((rightsT wl s t).all fun p => decide (p ∈ allR) && (decide (p.length = (unl s t).length) && (walkB wl t s p && p.all fun r => isDir (.int r)))) && (decide (turnsB wl (unl s t).length s t ∈ rightsT wl s t) && decide ((rightsT wl s t).length ≤ 100)))
theorem turns_ok : ∀ wl ∈ WL, ∀ s ∈ sidesL wl, ∀ t ∈ sidesL wl, turnsOk wl s t = true := by decide +kernel
structure TurnsIn (wl s t : List Int) : Prop where
  walk : ∀ p ∈ walksT wl (unl s t).length s, walkB wl t s p = true → p ∈ rightsT wl s t
  rgt : ∀ p ∈ rightsT wl s t, p ∈ allR ∧ p.length = (unl s t).length ∧ walkB wl t s p = true ∧ (p.all fun r => isDir (.int r)) = true
  told : turnsB wl (unl s t).length s t ∈ rightsT wl s t
  len : (rightsT wl s t).length ≤ 100
theorem turns_in {wl s t : List Int} (hw : wl ∈ WL) (hs : s ∈ sidesL wl) (ht : t ∈ sidesL wl) : TurnsIn wl s t := by
  have h := turns_ok wl hw s hs t ht
  unfold turnsOk at h
  simp only [Bool.and_eq_true, Bool.or_eq_true, Bool.not_eq_true', decide_eq_true_eq, List.all_eq_true (l := rightsT wl s t), List.all_eq_true (l := walksT wl (unl s t).length s)] at h
  obtain ⟨h1, h2, h3, h4⟩ := h
  refine ⟨fun p hp hq => ?_, fun p hp => ?_, h3, h4⟩
  · rcases h1 p hp with e | e
    · rw [hq] at e
      cases e
    · exact e
  · exact h2 p hp
theorem isDir_n {x : D} (h : isDir x = true) : x = .int (nOf x) := by
  cases x with
  | int i => rfl
  | _ => cases h
theorem hold_iff {wl s t : List Int} (h : TurnsIn wl s t) (z : D) : holdB wl s t z = true ↔ ∃ p ∈ rightsT wl s t, z = tD p := by
  constructor
  · intro e
    cases z with
    | tup xs =>
      simp only [holdB, Bool.and_eq_true, decide_eq_true_eq, List.all_eq_true] at e
      obtain ⟨e1, e2, e3⟩ := e
      have ex : xs = (xs.map nOf).map D.int := by
        rw [List.map_map]
        exact (List.map_id'' (fun x => rfl) xs).symm.trans (List.map_congr_left fun x hx => isDir_n (e1 x hx))
      have hm := walk_mem _ _ e3
      rw [List.length_map, e2] at hm
      exact ⟨xs.map nOf, h.walk _ hm e3, congrArg D.tup ex⟩
    | _ => cases e
  · rintro ⟨p, hp, rfl⟩
    obtain ⟨_, e2, e3, e4⟩ := h.rgt p hp
    simp only [holdB, tD, Bool.and_eq_true, decide_eq_true_eq, List.length_map, List.map_map, List.all_map]
    refine ⟨e4, e2, ?_⟩
    have : p.map (nOf ∘ D.int) = p := List.map_id'' (fun _ => rfl) p
    rw [this]
    exact e3
def namesT (wl s t : List Int) : List D := (rightsT wl s t).map fun p => .str (toPy (tD p)).shown
theorem inb_str (u : Str) : ∀ L : List Str, inb (.str u) (L.map D.str) = decide (u ∈ L)
  | [] => rfl
  | v :: L => by
    have h := inb_str u L
    unfold inb at h ⊢
    rw [List.map_cons, List.any_cons, h, eqb_str, Bool.eq_iff_iff, Bool.or_eq_true, decide_eq_true_eq, decide_eq_true_eq, decide_eq_true_eq, List.mem_cons]
    exact or_congr eq_comm Iff.rfl
theorem hold_names {wl s t : List Int} (h : TurnsIn wl s t) (z : D) : inb (.str (toPy z).shown) (namesT wl s t) = holdB wl s t z := by
  have e : namesT wl s t = ((rightsT wl s t).map fun p => (toPy (tD p)).shown).map D.str := by
    unfold namesT
    rw [List.map_map]
    rfl
  rw [e, inb_str, Bool.eq_iff_iff, hold_iff h, decide_eq_true_eq, List.mem_map]
  constructor
  · rintro ⟨p, hp, e⟩
    exact ⟨p, hp, shown_tD e.symm⟩
  · rintro ⟨p, hp, rfl⟩
    exact ⟨p, hp, rfl⟩
def oddT (p : List Int) (r : Int) : List D := [tD p.reverse, .lst (p.map .int), tD (p ++ [r, r]), tD p.tail, tD p.dropLast, tD (p ++ [r]), .tup [tD p], .non, .str "", .dic [], .int 0, tD (p.take 1 ++ [5] ++ p.drop 2), .tup (.bl true :: p.tail.map .int), .tup (p.map fun x => .bl (x != 0)), .lst [], .tup [], tD ([r, r] ++ p), tD (p ++ p), tD (p.map (· + 5)), .tup [.str "0"], .tup [.non], tD [r], tD [r, r]]
def shortT : D → Bool
  | .tup xs => decide (xs.length ≤ 100)
  | _ => true
theorem oddT_ok : ∀ p ∈ allR, ∀ r ∈ dirs5, ∀ z ∈ oddT p r, (rp 64 z = true ∧ bigOk (toPy z) = true ∧ (toPy z).shown.length ≤ sizeLine) ∧ shortT z = true := by decide +kernel
theorem allR_ok : ∀ p ∈ allR, (rp 64 (tD p) = true ∧ bigOk (toPy (tD p)) = true ∧ (toPy (tD p)).shown.length ≤ sizeLine) ∧ p.length ≤ 5 := by decide +kernel
theorem allR_str : ∀ p ∈ allR, pl 63 (.str (toPy (tD p)).shown) = true := fun p hp => good_iff.mpr (shown_good 64 _ (allR_ok p hp).1.1)
theorem oddT_str : ∀ p ∈ allR, ∀ r ∈ dirs5, ∀ z ∈ oddT p r, pl 64 (.str (toPy z).shown) = true := fun p hp r hr z hz => good_iff.mpr (shown_good 64 _ (oddT_ok p hp r hr z hz).1.1)
theorem at_lst {xs : List D} {i : Int} {x : D} (i0 : 0 ≤ i) (h : xs[i.toNat]? = some x) {Q : D → Prop} (q : Q x) : ixD (.lst xs) (.int i) Q := by
  refine ⟨x, ?_, q⟩
  obtain ⟨hl, _⟩ := List.getElem?_eq_some_iff.mp h
  unfold L2.atI L2.ixN
  rw [if_pos i0, if_pos (by omega)]
  exact h
theorem five_cases {p : List Int} (h : p.length ≤ 5) : p = [] ∨ (∃ a, p = [a]) ∨ (∃ a b, p = [a, b]) ∨ (∃ a b c, p = [a, b, c]) ∨ (∃ a b c d, p = [a, b, c, d]) ∨ ∃ a b c d e, p = [a, b, c, d, e] := by
  match p, h with
  | [], _ => exact .inl rfl
  | [a], _ => exact .inr (.inl ⟨a, rfl⟩)
  | [a, b], _ => exact .inr (.inr (.inl ⟨a, b, rfl⟩))
  | [a, b, c], _ => exact .inr (.inr (.inr (.inl ⟨a, b, c, rfl⟩)))
  | [a, b, c, d], _ => exact .inr (.inr (.inr (.inr (.inl ⟨a, b, c, d, rfl⟩))))
  | [a, b, c, d, e], _ => exact .inr (.inr (.inr (.inr (.inr ⟨a, b, c, d, e, rfl⟩))))
theorem odd_set (p : List Int) (r : Int) (hp : p.length ≤ 5) {s0 s1 s2 s3 s4 s5 s6 s7 s8 s9 s12 s13 s14 s15 s16 s17 : SV} {g : GS} {E : Ed} (q : g E [s0, s1, s2, s3, s4, s5, s6, s7, s8, s9, .d (.int r), .d (tD p), .ol (oddT p r), s13, s14, s15, s16, s17]) : (gSeq (gSetL 12 (ND.gLst (ND.gCons (gUn revD (gVar 11)) (ND.gCons (gFrz (gBltF listD (ND.gCons (gVar 11) ND.gNil))) (ND.gCons (gBin addD (gVar 11) (ND.gTup (ND.gCons (gVar 10) (ND.gCons (gVar 10) ND.gNil)))) (ND.gCons (gSl slD (gVar 11) (gPart (gC (.int 1))) gNoPart) (ND.gCons (gSl slD (gVar 11) gNoPart (gPart (gUn negD (gC (.int 1))))) (ND.gCons (gBin addD (gVar 11) (ND.gTup (ND.gCons (gVar 10) ND.gNil))) (ND.gCons (ND.gTup (ND.gCons (gVar 11) ND.gNil)) (ND.gCons (gC .non) (ND.gCons (gC (.str "")) (ND.gCons (gC (.dic [])) (ND.gCons (gC (.int 0)) ND.gNil))))))))))))) (gSeq (gExt 12 (gFrz (ND.gLst (ND.gCons (gBin addD (gBin addD (gSl slD (gVar 11) gNoPart (gPart (gC (.int 1)))) (ND.gTup (ND.gCons (gC (.int 5)) ND.gNil))) (gSl slD (gVar 11) (gPart (gC (.int 2))) gNoPart)) (ND.gCons (gBin addD (ND.gTup (ND.gCons (gC (.bl true)) ND.gNil)) (gSl slD (gVar 11) (gPart (gC (.int 1))) gNoPart)) (ND.gCons (gBlt tupleD (ND.gCons (gFrz (gLc (gIter (gVar 11)) (ggName 17) gYes (gBlt boolD (ND.gCons (gVar 17) ND.gNil)) [17])) ND.gNil)) (ND.gCons (gFrz (ND.gLst ND.gNil)) (ND.gCons (ND.gTup ND.gNil) ND.gNil)))))))) (gSeq (gExt 12 (gFrz (ND.gLst (ND.gCons (gBin addD (ND.gTup (ND.gCons (gVar 10) (ND.gCons (gVar 10) ND.gNil))) (gVar 11)) (ND.gCons (gBin addD (gVar 11) (gVar 11)) (ND.gCons (gBlt tupleD (ND.gCons (gFrz (gLc (gIter (gVar 11)) (ggName 17) gYes (gBin addD (gVar 17) (gC (.int 5))) [17])) ND.gNil)) (ND.gCons (ND.gTup (ND.gCons (gC (.str "0")) ND.gNil)) (ND.gCons (ND.gTup (ND.gCons (gC .non) ND.gNil)) (ND.gCons (ND.gTup (ND.gCons (gVar 10) ND.gNil)) (ND.gCons (ND.gTup (ND.gCons (gVar 10) (ND.gCons (gVar 10) ND.gNil))) ND.gNil)))))))))) g))) E [s0, s1, s2, s3, s4, s5, s6, s7, s8, s9, .d (.int r), .d (tD p), s12, s13, s14, s15, s16, s17] := by
  rcases five_cases hp with rfl | ⟨a, rfl⟩ | ⟨a, b, rfl⟩ | ⟨a, b, c, rfl⟩ | ⟨a, b, c, d, rfl⟩ | ⟨a, b, c, d, e, rfl⟩
  all_goals
    ((conv => whnf); repeat decreasing_trivial_pre_omega)
  · exact q
  · exact q
  · exact q
  · exact q
  · exact q
  · exact q
theorem len__law_are_turns_right : ∀ W ds Q R, sp__law_are_turns_right W ds Q R → ds.length = 5 := by
  rintro W ds Q R ⟨d, l, a, b, m, i, j, s, t, _, rfl, _⟩
  rfl
theorem law__law_are_turns_right : ∀ W ds Q R, sp__law_are_turns_right W ds Q R → g__law_are_turns_right W R (endsD Q) (startD 18 ds) := by
  rintro W ds Q R ⟨d, l, a, b, m, i, j, s, t, rfl, rfl, h, i0, j0, hi, hj, q⟩
  have k4 := h.up (by decide : 1000 ≤ 4000)
  have hw := whL_mem (d := m) h.r
  have hs := List.mem_of_getElem? hi
  have ht := List.mem_of_getElem? hj
  have fl : ∀ u ∈ sidesL (whL a b m), FlD (flo (keyD a b m) u) a b m u := fun u hu => ⟨rfl, k4, hu⟩
  have T := turns_in hw hs ht
  have epl := pl_keyD 62 a b m
  unfold g__law_are_turns_right
  conv => whnf
  refine at_lst i0 (by rw [List.getElem?_map, hi]; rfl) ?_
  conv => whnf
  refine at_lst j0 (by rw [List.getElem?_map, hj]; rfl) ?_
  conv => whnf
  decreasing_trivial_pre_omega
  conv => whnf
  refine ⟨_, rfl, rfl, ?_⟩
  conv => whnf
  refine at_lst i0 (by rw [List.getElem?_map, hi]; rfl) ?_
  conv => whnf
  refine at_lst j0 (by rw [List.getElem?_map, hj]; rfl) ?_
  conv => whnf
  refine ⟨whL a b m, s, t, rfl, hw, hs, ht, ?_⟩
  conv => whnf
  refine ⟨_, _, a, b, m, s, _, t, rfl, fl s hs, rfl, epl, fun z => ?_, fun _ => ⟨rfl, ht, ?_⟩⟩
  · rw [eqb_refl epl] at z
    cases z
  · have rg : ∀ p ∈ rightsT (whL a b m) s t, rp 64 (tD p) = true ∧ bigOk (toPy (tD p)) = true ∧ (toPy (tD p)).shown.length ≤ sizeLine := fun p hp => (allR_ok p (T.rgt p hp).1).1
    have nmL : ∀ {σ : List SV} {fe : GE} {Q : List D → Prop}, (∀ p ∈ rightsT (whL a b m) s t, ∀ Qd : D → Prop, Qd (.str (toPy (tD p)).shown) → fe (σ.set 16 (.d (tD p))) Qd) → 16 < σ.length → Q (namesT (whL a b m) s t) → lcG (ggName 16) gYes fe [16] σ Q ((rightsT (whL a b m) s t).map tD) [] := fun {σ fe Q} hk h16 q => by
      refine lc_map (fun z => .str (toPy z).shown) h16 _ [] (fun z hz Qd qd => ?_) (by rw [List.length_map]; exact Nat.le_trans (by simpa using T.len) (by decide : 100 ≤ sizeLine)) ?_
      · obtain ⟨p, hp, rfl⟩ := List.mem_map.mp hz
        exact hk p hp Qd qd
      · rw [List.nil_append, List.map_map]
        exact q
    obtain ⟨tp, etp⟩ : ∃ tp, tp = turnsB (whL a b m) (unl s t).length s t := ⟨_, rfl⟩
    rw [← etp]
    have htp : tp ∈ rightsT (whL a b m) s t := by rw [etp]; exact T.told
    show (fun d_1 => _) (tD tp)
    conv => whnf
    refine ⟨pl_tD 63 _, (pl_tDs 62 _).2, ?_⟩
    conv => whnf
    rw [show inb (D.tup (tp.map D.int)) ((rightsT (whL a b m) s t).map tD) = true from by rw [show D.tup (tp.map D.int) = tD tp from rfl, inb_tD, decide_eq_true htp]]
    conv => whnf
    obtain ⟨r1, r2, r3⟩ := rg tp htp
    refine ⟨r1, r2, r3, ?_⟩
    refine nmL (fun p hp Qd qd => ?_) (by show 16 < 18; decide) ?_
    · obtain ⟨r1, r2, r3⟩ := rg p hp
      exact ⟨r1, r2, r3, qd⟩
    have epn : pl 64 (.lst (namesT (whL a b m) s t)) = true := by
      show pls 63 (namesT (whL a b m) s t) = true
      rw [pls_all, List.all_eq_true]
      intro z hz
      obtain ⟨p, hp, rfl⟩ := List.mem_map.mp hz
      exact allR_str p (T.rgt p hp).1
    conv => whnf
    refine ⟨(by simpa only [pl] using allR_str tp (T.rgt tp htp).1 : pl 64 (.str (toPy (tD tp)).shown) = true), epn, ?_⟩
    conv => whnf
    rw [show inb (D.str (toPy (D.tup (tp.map D.int))).shown) (namesT (whL a b m) s t) = true from (hold_names T (tD tp)).trans ((hold_iff T _).mpr ⟨tp, htp, rfl⟩)]
    conv => whnf
    refine forL_in ?_
    refine forG_inv (P := fun ys σ => ∃ u rs v10, ys = rs.map D.int ∧ walkB (whL a b m) t u rs = true ∧ u ∈ sidesL (whL a b m) ∧ σ = [.d (dkD d), .d (.lst ((sidesL (whL a b m)).map tD)), .d (.lst ((sidesL (whL a b m)).map (flo (keyD a b m)))), .d (.int i), .d (.int j), .d (flo (keyD a b m) s), .d (flo (keyD a b m) t), .d (.lst ((rightsT (whL a b m) s t).map tD)), .d (tD tp), .d (flo (keyD a b m) u), v10, .no, .no, .no, .no, .no, .no, .no]) ?_ ?_ _ _ ⟨s, tp, .no, rfl, (T.rgt tp htp).2.2.1, hs, rfl⟩
    · rintro σ ⟨u, rs, v10, ers, hu, hus, rfl⟩
      cases rs with
      | cons r rs => cases ers
      | nil =>
      have eu : u = t := of_decide_eq_true hu
      subst eu
      conv => whnf
      refine flo_eq ?_
      rw [decide_eq_true rfl]
      conv => whnf
      refine .inl ⟨_, rfl, rok_b true, ?_⟩
      conv => whnf
      refine ⟨d, l, _, rfl, .inl rfl, ?_, ?_, fun z hz => ?_⟩
      · rw [List.length_map]
        exact List.length_pos_of_mem htp
      · rw [List.length_map]
        exact Nat.lt_of_le_of_lt T.len (by decide)
      · obtain ⟨p, hp, rfl⟩ := List.mem_map.mp hz
        obtain ⟨hpa, _⟩ := T.rgt p hp
        conv => whnf
        refine ⟨_, _, _, rfl, rfl, by first | decide | omega, by first | decide | omega, fun r r0 r1 => ?_⟩
        have hr : r ∈ dirs5 := in_dirs r0 (by omega)
        conv => whnf
        refine ⟨rfl, ?_⟩
        refine odd_set p r (allR_ok p hpa).2 ?_
        have h100 : ∀ z : D, shortT z = true → ∀ xs, z = .tup xs → xs.length ≤ 100 := fun z hsh xs e => by
          subst e
          exact of_decide_eq_true hsh
        have en : eqb (keyD a b m) (keyD a b m) = false → False := fun z => by
          rw [eqb_refl epl] at z
          cases z
        conv => whnf
        refine lc_mf (fun _ => false) (fun _ => .int 1) (by show 16 < 18; decide) _ [] (fun z hz Qd qd => ?_) (fun z hz e => nomatch e) (by rw [List.length_map]; exact Nat.le_trans (by simpa using T.len) (by decide : 100 ≤ sizeLine)) ?_
        · obtain ⟨p', hp', rfl⟩ := List.mem_map.mp hz
          conv => whnf
          refine ⟨_, _, _, a, b, m, s, _, u, rfl, fl s hs, rfl, epl, tyk1_rp (rg p' hp').1, h100 _ (decide_eq_true (by rw [List.length_map]; have := (allR_ok p' (T.rgt p' hp').1).2; omega)), fun z => (en z).elim, fun _ => ⟨rfl, ht, ?_⟩⟩
          rw [(hold_iff T _).mpr ⟨p', hp', rfl⟩]
          conv => whnf
          refine .inl ⟨_, rfl, rok_b true, ?_⟩
          exact qd
        have ef : ((rightsT (whL a b m) s u).map tD).filter (fun _ => false) = [] := List.filter_eq_nil_iff.mpr (by simp)
        rw [ef]
        ((conv => whnf); repeat decreasing_trivial_pre_omega)
        refine nmL (fun p hp Qd qd => ?_) (by show 16 < 18; decide) ?_
        · obtain ⟨r1, r2, r3⟩ := rg p hp
          exact ⟨r1, r2, r3, qd⟩
        conv => whnf
        refine ⟨5, rfl, by decide, by decide, ?_⟩
        refine forL_in ?_
        refine forG_rng (S := fun _ σ => ∃ v12 v14 v15, (v12 = .ol (oddT p r) ∨ v12 = .d (.lst (oddT p r))) ∧ σ = [.d (dkD d), .d (.lst ((sidesL (whL a b m)).map tD)), .d (.lst ((sidesL (whL a b m)).map (flo (keyD a b m)))), .d (.int i), .d (.int j), .d (flo (keyD a b m) s), .d (flo (keyD a b m) u), .d (.lst ((rightsT (whL a b m) s u).map tD)), .d (tD tp), .d (flo (keyD a b m) u), .d (.int r), .d (tD p), v12, .d (.lst (namesT (whL a b m) s u)), v14, v15, .no, .no]) 0 5 _ ⟨_, _, _, .inl rfl, rfl⟩ ?_ ?_
        · rintro σ ⟨v12, v14, v15, _, rfl⟩
          conv => whnf
          exact q
        · rintro j hj σ ⟨v12, v14, v15, hv, rfl⟩ E' hrt hnx hct
          rcases hv with rfl | rfl
          all_goals
            conv => whnf
            refine ⟨d, l, oddT p r, rfl, .inl rfl, (by show 0 < 23; decide), (by show 23 < 2 ^ 62; decide), fun z hz => ?_⟩
            obtain ⟨⟨r1, r2, r3⟩, r4⟩ := oddT_ok p hpa r hr z hz
            have r5 := oddT_str p hpa r hr z hz
            conv => whnf
            refine ⟨_, _, _, a, b, m, s, _, u, rfl, fl s hs, rfl, epl, tyk1_rp r1, h100 _ r4, fun z => (en z).elim, fun _ => ⟨rfl, ht, ?_⟩⟩
            conv => whnf
            refine ⟨r1, r2, r3, ?_⟩
            refine ⟨r5, epn, ?_⟩
            conv => whnf
            rw [hold_names T z]
            refine .inl ⟨_, rfl, rok_b _, ?_⟩
            conv => whnf
            exact hnx _ ⟨_, _, _, .inr rfl, rfl⟩
    · rintro y ys σ ⟨u, rs, v10, ers, hu, hus, rfl⟩ E' hrt hbk hnx hct
      cases rs with
      | nil => cases ers
      | cons r rs =>
      obtain ⟨rfl, rfl⟩ := List.cons.inj ers
      have hu2 : (if r ∈ worms (whL a b m) u then walkB (whL a b m) t (chg u r) rs else false) = true := hu
      by_cases hm : r ∈ worms (whL a b m) u
      · rw [if_pos hm] at hu2
        conv => whnf
        refine ⟨_, _, a, b, m, u, rfl, fl u hus, rfl, ?_, ?_⟩
        · intro z
          rw [isDir_yes (worms_dir hm).1.1 (worms_dir hm).1.2] at z
          cases z
        · rintro _ ⟨⟩ _ _
          rw [if_pos hm]
          exact hnx _ ⟨chg u r, rs, .d (.int r), rfl, hu2, (worms_dir hm).2, rfl⟩
      · rw [if_neg hm] at hu2
        cases hu2
theorem key_ne {a b a' b' : Int → Int} {m : Int} (hm : 1 ≤ m) (h : a' 0 ≠ a 0) : eqb (keyD a b m) (keyD a' b' m) = false := by
  obtain ⟨p, q, r, e, hr, e1, _⟩ := red_prop (a := a 0) (b := b 0) (d := m) (by omega)
  obtain ⟨p', q', r', e', hr', e1', _⟩ := red_prop (a := a' 0) (b := b' 0) (d := m) (by omega)
  have h0 : eqb (red (a 0) (b 0) m) (red (a' 0) (b' 0) m) = false := by
    rw [e, e']
    have : eqb (tri p q r) (tri p' q' r') = decide ([p, q, r] = [p', q', r']) := eqb_tD [p, q, r] [p', q', r']
    rw [this]
    refine decide_eq_false fun z => ?_
    simp only [List.cons.injEq] at z
    obtain ⟨rfl, rfl, rfl, _⟩ := z
    rw [e1] at e1'
    exact h (Int.eq_of_mul_eq_mul_right (by omega) e1').symm
  show (eqb (red (a 0) (b 0) m) (red (a' 0) (b' 0) m) && _) = false
  rw [h0]
  rfl
def floV (k : D) : D → D
  | .tup xs => flo k (xs.map nOf)
  | z => z
theorem floV_map (k : D) (L : List (List Int)) : (L.map tD).map (floV k) = L.map (flo k) := by
  rw [List.map_map]
  refine List.map_congr_left fun t _ => ?_
  show flo k ((t.map D.int).map nOf) = flo k t
  rw [List.map_map]
  exact congrArg (flo k) (List.map_id'' (fun _ => rfl) t)
theorem floV_tD (k : D) (t : List Int) : floV k (tD t) = flo k t := by
  have := floV_map k [t]
  exact (List.cons.inj this).1
theorem enum_in {L : List (List Int)} {y : D} (h : y ∈ enumL (L.map tD)) : ∃ (k : Nat) (t : List Int), y = .tup [.int k, tD t] ∧ L[k]? = some t := by
  obtain ⟨n, hn⟩ := List.mem_iff_getElem?.mp h
  obtain ⟨x, hx, e⟩ := enumL_at hn
  rw [List.getElem?_map] at hx
  cases hl : L[n]? with
  | none => rw [hl] at hx; cases hx
  | some t => rw [hl] at hx; cases hx; exact ⟨n, t, e, hl⟩
theorem law_law : ∀ (d l : Addr) (v : V), g_law (some (d, l)) (fun _ => False) (endsD fun r => r = .bl true) (.d (.opq v) :: .d (.opq (.ref d)) :: List.replicate 12 .no) := by
  intro d l v
  unfold g_law
  refine seq_mid (P := fun σ' => ∃ a b m s, Wld3 a b m s ∧ σ' = [.d (.opq v), .d (.opq (.ref d)), .d (wrl a b m s), .no, .no, .no, .no, .no, .no, .no, .no, .no, .no, .no]) ?rest ?head
  case head =>
    intro E' hrt hnx
    conv => whnf
    refine ⟨_, _, _, rfl, rfl, by first | decide | omega, by first | decide | omega, fun z z0 z1 => ?_⟩
    conv => whnf
    refine ⟨rfl, rfl, ?_⟩
    conv => whnf
    rw [eqb_int]
    by_cases hz : z = 0
    · rw [decide_eq_true hz]
      conv => whnf
      refine ⟨d, l, rfl, rfl, fun a b m s h3 => ?_⟩
      exact hnx _ ⟨a, b, m, s, h3, rfl⟩
    · rw [decide_eq_false hz]
      conv => whnf
      refine ⟨_, _, _, rfl, rfl, by first | decide | omega, by first | decide | omega, fun y y0 y1 => ?_⟩
      conv => whnf
      refine ⟨d, l, _, rfl, rfl, fun a b m s h3 => ?_⟩
      exact hnx _ ⟨a, b, m, s, h3, rfl⟩
  case rest =>
    rintro σ' ⟨a, b, m, s, h3, rfl⟩
    obtain ⟨h, hs⟩ := h3.up
    have k4 := h.up (by decide : 1000 ≤ 4000)
    have hw := whL_mem (d := m) h.r
    have hf : FlD (flo (keyD a b m) s) a b m s := ⟨rfl, k4, hs⟩
    have epl := pl_keyD 62 a b m
    have l10 : (sidesL (whL a b m)).length ≤ 10 ∧ 0 < (sidesL (whL a b m)).length := by
      generalize whL a b m = wl at hw
      revert wl
      decide
    conv => whnf
    refine ⟨_, rfl, rfl, ?_⟩
    conv => whnf
    refine ⟨a, b, m, rfl, h.d1, h.r, ?_⟩
    conv => whnf
    refine ⟨d, l, a, b, m, s, rfl, rfl, h3.up, ?_⟩
    ((conv => whnf); repeat decreasing_trivial_pre_omega)
    refine ⟨d, l, a, b, m, s, rfl, rfl, h3.up, ?_⟩
    conv => whnf
    refine lc_map (floV (keyD a b m)) (by show 10 < 14; decide) _ [] (fun y hy Qd qd => ?_) (by rw [List.length_map]; exact Nat.le_trans (by simpa using l10.1) (by decide : 10 ≤ sizeLine)) ?_
    · obtain ⟨t, ht, rfl⟩ := List.mem_map.mp hy
      conv => whnf
      refine ⟨_, _, a, b, m, s, rfl, hf, tyk1_rp (rok_sides _ hw t ht).1, fun z => ?_, fun t' et ht' => ?_⟩
      · rw [isSide_yes hw ht] at z
        cases z
      · rw [floV_tD, tD_inj et] at qd
        exact qd
    rw [List.nil_append, floV_map]
    conv => whnf
    refine forL_in ?_
    refine forG_inv (P := fun ys σ => (∀ y ∈ ys, ∃ (k : Nat) (t : List Int), y = .tup [.int k, tD t] ∧ (sidesL (whL a b m))[k]? = some t) ∧ ∃ v9 v10, σ = [.d (.opq v), .d (dkD d), .d (wrl a b m s), .d (.int m), .d (keysP a b), .d (tD s), .d (.lst ((sidesL (whL a b m)).map tD)), .d (flo (keyD a b m) s), .d (.lst ((sidesL (whL a b m)).map (flo (keyD a b m)))), v9, v10, .no, .no, .no]) ?_ ?_ _ _ ⟨fun y hy => enum_in hy, _, _, rfl⟩
    · rintro σ ⟨_, v9, v10, rfl⟩
      conv => whnf
      refine ⟨4, rfl, by decide, by decide, ?_⟩
      refine forL_in ?_
      refine forG_rng (S := fun _ σ => ∃ v11, σ = [.d (.opq v), .d (dkD d), .d (wrl a b m s), .d (.int m), .d (keysP a b), .d (tD s), .d (.lst ((sidesL (whL a b m)).map tD)), .d (flo (keyD a b m) s), .d (.lst ((sidesL (whL a b m)).map (flo (keyD a b m)))), v9, v10, v11, .no, .no]) 0 4 _ ⟨_, rfl⟩ ?_ ?_
      · rintro σ ⟨v11, rfl⟩
        ((conv => whnf); repeat decreasing_trivial_pre_omega)
        refine ⟨d, l, _, rfl, .inr rfl, (by show 0 < 3; decide), (by show 3 < 2 ^ 62; decide), fun z hz => ?_⟩
        have hb : ∃ n0 n1 n2 n3 n4 : Int, z = tD [n0, n1, n2, n3, n4] ∧ Szf 100 (at5 n0 n1 n2 n3 n4) ∧ n0 + n1 + n2 + n3 + n4 = 0 ∧ n4 + n0 + n1 ≠ 0 := by
          simp only [List.mem_cons, List.not_mem_nil, or_false] at hz
          rcases hz with rfl | rfl | rfl
          · exact ⟨1, 0, -1, 0, 0, rfl, fun i i0 i4 => by rcases five_of i0 i4 with rfl | rfl | rfl | rfl | rfl <;> decide, by decide, by decide⟩
          · exact ⟨0, 0, -1, 0, 1, rfl, fun i i0 i4 => by rcases five_of i0 i4 with rfl | rfl | rfl | rfl | rfl <;> decide, by decide, by decide⟩
          · exact ⟨0, 10 ^ 20, 0, -10 ^ 20, 0, rfl, fun i i0 i4 => by rcases five_of i0 i4 with rfl | rfl | rfl | rfl | rfl <;> decide, by decide, by decide⟩
        obtain ⟨n0, n1, n2, n3, n4, rfl, hsz, hsum, hne⟩ := hb
        clear hz
        conv => whnf
        refine ⟨a, b, m, s, n0, n1, n2, n3, n4, rfl, h3, hsz, hsum, fun a' b' h3' ea => ?_⟩
        have hk : eqb (keyD a b m) (keyD a' b' m) = false := key_ne h.d1 fun z => by
          have z2 : m * (n4 + n0 + n1) = 0 := by omega
          rcases Int.mul_eq_zero.mp z2 with z3 | z3
          · have := h.d1
            omega
          · exact hne z3
        have epl' := pl_keyD 62 a' b' m
        conv => whnf
        refine ⟨d, l, a', b', m, s, rfl, rfl, h3', ?_⟩
        conv => whnf
        refine ⟨_, _, a, b, m, s, keyD a' b' m, s, rfl, hf, rfl, epl', fun _ => ?_, fun z => ?_⟩
        case refine_2 =>
          rw [hk] at z
          cases z
        conv => whnf
        refine .inl ⟨_, rfl, rok_non, ?_⟩
        ((conv => whnf); repeat decreasing_trivial_pre_omega)
        refine ⟨d, l, _, rfl, .inr rfl, (by show 0 < 5; decide), (by show 5 < 2 ^ 62; decide), fun z hz => ?_⟩
        have hb : rp 64 z = true ∧ ∀ xs, z = .tup xs → xs.length ≤ 100 := by
          simp only [List.mem_cons, List.not_mem_nil, or_false] at hz
          rcases hz with rfl | rfl | rfl | rfl | rfl
          all_goals
            refine ⟨by decide +kernel, fun xs e => ?_⟩
            first
            | (cases e; done)
            | (cases e; decide)
        clear hz
        conv => whnf
        refine ⟨_, _, _, a, b, m, s, keyD a' b' m, s, rfl, hf, rfl, epl', tyk1_rp hb.1, hb.2, fun _ => ?_, fun z => ?_⟩
        case refine_2 =>
          rw [hk] at z
          cases z
        conv => whnf
        refine .inl ⟨_, rfl, rok_b false, ?_⟩
        conv => whnf
        refine ⟨rfl, rfl, ?_⟩
        conv => whnf
        rw [eqb_int, List.length_map]
        by_cases h10 : ((((sidesL (whL a b m)).length : Nat) : Int)) = 10
        · rw [decide_eq_true h10]
          conv => whnf
          refine ⟨d, l, a, b, m, s, rfl, rfl, ⟨h, hs⟩, by omega, ?_⟩
          exact rfl
        · rw [decide_eq_false h10]
          exact rfl
      · rintro j hj σ ⟨v11, rfl⟩ E' hrt hnx hct
        have ln : 0 < ((((sidesL (whL a b m)).map tD).length : Nat) : Int) ∧ ((((sidesL (whL a b m)).map tD).length : Nat) : Int) < 2 ^ 62 := by
          rw [List.length_map]
          omega
        conv => whnf
        refine ⟨_, _, _, rfl, rfl, ln.1, ln.2, fun x x0 x1 => ?_⟩
        conv => whnf
        refine ⟨_, _, _, rfl, rfl, ln.1, ln.2, fun y y0 y1 => ?_⟩
        rw [List.length_map] at x1 y1
        conv => whnf
        refine ⟨d, l, a, b, m, x, y, _, _, rfl, rfl, h, x0, y0, List.getElem?_eq_getElem (by omega), List.getElem?_eq_getElem (by omega), ?_⟩
        conv => whnf
        exact hnx _ ⟨_, rfl⟩
    · rintro y ys σ ⟨hy, v9, v10, rfl⟩ E' hrt hbk hnx hct
      obtain ⟨k, t, rfl, hk⟩ := hy y List.mem_cons_self
      have ht := List.mem_of_getElem? hk
      have hat : ∀ {Q : D → Prop}, Q (flo (keyD a b m) t) → ixD (.lst ((sidesL (whL a b m)).map (flo (keyD a b m)))) (.int k) Q := fun {Q} q => at_lst (by omega) (by rw [Int.toNat_natCast, List.getElem?_map, hk]; rfl) q
      conv => whnf
      refine ⟨_, rfl, rfl, ?_⟩
      conv => whnf
      refine hat ?_
      conv => whnf
      decreasing_trivial_pre_omega
      conv => whnf
      refine ⟨d, l, a, b, m, t, rfl, rfl, ⟨h, ht⟩, ?_⟩
      conv => whnf
      refine flo_eq ?_
      rw [decide_eq_true rfl]
      conv => whnf
      refine .inl ⟨_, rfl, rok_b true, ?_⟩
      conv => whnf
      refine hat ?_
      conv => whnf
      refine fld_s ?_
      conv => whnf
      refine .inl ⟨_, rfl, rok_sides _ hw t ht, ?_⟩
      conv => whnf
      exact hnx _ ⟨fun y m => hy y (List.mem_cons_of_mem _ m), _, _, rfl⟩
set_option maxHeartbeats 8000000
section
variable {P : Program} {w : World} {K : PySem.W.Frag} {mg : Str → Option Value} {base : Heap} {T : List (Addr × Str)}
theorem ok__law_draw {f : Addr} {fd : FuncData} (bt : Bt mg) (hm : mg "_law_draw" = some (.ref f)) (F : Fun K "_law_draw" "_law_draw" (top 51) f fd) : OkD P w K mg base T "_law_draw" (top 51) 1 ["_law_deck_here", "_law_many"] spDraw := by
  refine ⟨f, fd, hm, F, okDraw (c := 69621) F sc__law_draw rfl rfl (small64 (by decide) (by decide)) fun cdv A outer s H E hr => ?_⟩
  have hu := hu_of hr
  have h64 := hr.units
  have nd := sc__law_draw.nd
  have it : ∀ {t : Str}, t = t := rfl
  exact pss_cons (ps_dput hu (pv 0) pe_str (pe_op op_add (pe_dget hu (pv 0) pe_str nosl) pe_int) rfl)
    (pss_cons (ps_set (i := 2) nd rfl (Or.inl rfl) (pe_op op_add (pe_dget hu (pv 0) pe_str nosl) (pe_op op_mul pe_int (pe_dget hu (pv 0) pe_str nosl))))
    (pss_cons (ps_if (pt_cmpR (op_neD h64) (pe_dget hu (pv 0) pe_str nosl) (pe_lst pa_nil) (nomark _))
      (pss_cons (ps_set (i := 3) nd rfl (Or.inl rfl) (pe_bm0 PySem.F.plainAttrs_list PySem.F.slot_list_pop PySem.F.type_list_pop mt_pop (pe_dget hu (pv 0) pe_str nosl)))
      (pss_cons (ps_if (pt_cmpR op_ge (pv 3) (pe_op op_pow pe_int pe_int) (nomark _))
        (pss_cons (ps_expr (pe_bm PySem.F.plainAttrs_list PySem.F.slot_list_append PySem.F.type_list_append mt_append (pe_dget hu (pv 0) pe_str nosl) (pa_cons (pe_op op_fdivW (pv 3) (pe_callB (call_max2 rfl) rfl bt.b_max nbMax (pa_cons pe_int (pa_cons (pv 1) pa_nil)))) pa_nil)))
        (pss_one (ps_ret (pe_op op_mod (pe_callTy call_int1 rfl bt.b_int nbInt (pa_cons (pv 3) pa_nil)) (pv 1)))))
        pss_nil)
      (pss_one (ps_set (i := 2) nd rfl (Or.inl rfl) (pe_op op_add (pv 2) (pe_op op_mod (pe_callTy call_int1 rfl bt.b_int nbInt (pa_cons (pv 3) pa_nil)) pe_int))))))
      pss_nil)
    (pss_cons (ps_set (i := 2) nd rfl (Or.inl rfl) (pe_op op_mod (pe_callTy call_int1 rfl bt.b_int nbInt (pa_cons (pe_op op_add (pe_op op_mul (pv 2) pe_int) pe_int) pa_nil)) pe_int))
    (pss_cons (ps_set (i := 2) nd rfl (Or.inl rfl) (pe_op op_mod (pe_callTy call_int1 rfl bt.b_int nbInt (pa_cons (pe_op op_add (pe_op op_add (pe_op op_mul (pv 2) (pv 2)) (pe_op op_mul pe_int (pe_dget hu (pv 0) pe_str nosl))) pe_int) pa_nil)) pe_int))
    (pss_cons (ps_set (i := 2) nd rfl (Or.inl rfl) (pe_op op_mod (pe_callTy call_int1 rfl bt.b_int nbInt (pa_cons (pe_op op_mul (pv 2) pe_int) pa_nil)) pe_int))
    (pss_one (ps_ret (pe_op op_mod (pe_callTy call_int1 rfl bt.b_int nbInt (pa_cons (pe_op op_fdivW (pv 2) pe_int) pa_nil)) (pv 1)))))))))
theorem ok__law_deck {f : Addr} {fd : FuncData} (bt : Bt mg) (F : Fun K "_law_deck" "_law_deck" (top 50) f fd) : FnOk P w K mg base (L2.CX P w) 1 f fd ["_law_script"] (spDeck K) := by
  refine okDeck (c := 10879044) (b := 57) F sc__law_deck rfl rfl (by decide) fun cdv A outer s H E hr => ?_
  have nd := sc__law_deck.nd
  exact pss_cons (ps_set (i := 1) nd rfl (Or.inl rfl) pe_int)
    (pss_cons (ps_for (passes_of rfl) rfl (pi_list (pe_slice sl_list (pv 0) po_none (po_some pe_int))) (pg_name (i := 2) nd rfl (Or.inl rfl))
      (pss_one (ps_set (i := 1) nd rfl (Or.inl rfl) (pe_op op_mod (pe_callTy call_int1 rfl bt.b_int nbInt (pa_cons (pe_op op_add (pe_op op_add (pe_op op_mul (pv 1) pe_int) (pe_op op_mod (pe_callTy call_int1 rfl bt.b_int nbInt (pa_cons (pv 2) pa_nil)) pe_int)) pe_int) pa_nil)) pe_int))))
    (pss_one (ps_ret (pe_disp (pps_cons pe_str (pe_revL (pe_callTy call_list_of rfl bt.b_list nbList (pa_cons (pe_slice sl_list (pv 0) po_none (po_some pe_int)) pa_nil))) (pps_cons pe_str (pv 1) (pps_cons pe_str pe_int pps_nil))) rfl rfl (by simp) (by decide)))))
theorem ok_is_integer {f : Addr} {fd : FuncData} (bt : Bt mg) (ct : Ct K mg) (hm : mg "is_integer" = some (.ref f)) (F : Fun K "is_integer" "is_integer" (top 10) f fd)  : OkD P w K mg base T "is_integer" (top 10) 1 ["thing"] sp_is_integer := by
  refine ⟨f, fd, hm, F, okD (g := g_is_integer) F sc_is_integer len_is_integer (fun cdv A outer s H E W F R hr hE hp hx => ?_) law_is_integer⟩
  have nd := sc_is_integer.nd
  have hu65 := hu65_of hr
  exact (sds_one (sd_ret (ed_and (ed_callB (c_isiX ct.ob) (by rfl) bt.b_isinstance nbIsi (abd_cons (ed_var 0 (pv 0)).toB (abd_cons (ed_ty (by rfl) bt.b_int nbInt).toB abd_nil))) (ed_one (ed_not (ed_callB (c_isiX ct.ob) (by rfl) bt.b_isinstance nbIsi (abd_cons (ed_var 0 (pv 0)).toB (abd_cons (ed_ty (by rfl) bt.b_bool nbBool).toB abd_nil))).toB)))))
theorem ok_normal {f : Addr} {fd : FuncData} (bt : Bt mg) (ct : Ct K mg) (hm : mg "normal" = some (.ref f)) (F : Fun K "normal" "normal" (top 12) f fd)  : OkD P w K mg base T "normal" (top 12) 1 ["a", "b", "d"] sp_normal := by
  refine ⟨f, fd, hm, F, okD (g := g_normal) F sc_normal len_normal (fun cdv A outer s H E W F R hr hE hp hx => ?_) law_normal⟩
  have nd := sc_normal.nd
  have hu65 := hu65_of hr
  exact (sds_cons (sd_set (i := 3) nd rfl (Or.inl rfl) (ed_callFun c_gcd (by rfl) bt.f_gcd (abd_cons (ed_callFun c_gcd (by rfl) bt.f_gcd (abd_cons (ed_var 0 (pv 0)).toB (abd_cons (ed_var 1 (pv 1)).toB abd_nil))).toB (abd_cons (ed_var 2 (pv 2)).toB abd_nil))))
      (sds_cons (sd_if (td_cmp o_lt (ed_var 2 (pv 2)).toB ed_int.toB (nomark _)) (sds_one (sd_set (i := 3) nd rfl (Or.inl rfl) (ed_un o_neg (ed_var 3 (pv 3)).toB))) sds_nil)
      (sds_one (sd_ret (ed_tup (ad_cons (ed_bin o_fdivA (ed_var 0 (pv 0)).toB (ed_var 3 (pv 3)).toB) (ad_cons (ed_bin o_fdivA (ed_var 1 (pv 1)).toB (ed_var 3 (pv 3)).toB) (ad_cons (ed_bin o_fdivA (ed_var 2 (pv 2)).toB (ed_var 3 (pv 3)).toB) ad_nil))))))))
theorem ok_negative {f : Addr} {fd : FuncData} (bt : Bt mg) (ct : Ct K mg) (hm : mg "negative" = some (.ref f)) (F : Fun K "negative" "negative" (top 13) f fd)  : OkD P w K mg base T "negative" (top 13) 1 ["one"] sp_negative := by
  refine ⟨f, fd, hm, F, okD (g := g_negative) F sc_negative len_negative (fun cdv A outer s H E W F R hr hE hp hx => ?_) law_negative⟩
  have nd := sc_negative.nd
  have hu65 := hu65_of hr
  exact (sds_one (sd_ret (ed_tup (ad_cons (ed_un o_neg (ed_ix (ed_var 0 (pv 0)).toB ed_int.toB).toB) (ad_cons (ed_un o_neg (ed_ix (ed_var 0 (pv 0)).toB ed_int.toB).toB) (ad_cons (ed_ix (ed_var 0 (pv 0)).toB ed_int.toB) ad_nil))))))
theorem ok_times_g {f : Addr} {fd : FuncData} (bt : Bt mg) (ct : Ct K mg) (hm : mg "times_g" = some (.ref f)) (F : Fun K "times_g" "times_g" (top 16) f fd)  : OkD P w K mg base T "times_g" (top 16) 1 ["one"] sp_times_g := by
  refine ⟨f, fd, hm, F, okD (g := g_times_g) F sc_times_g len_times_g (fun cdv A outer s H E W F R hr hE hp hx => ?_) law_times_g⟩
  have nd := sc_times_g.nd
  have hu65 := hu65_of hr
  exact (sds_one (sd_ret (ed_tup (ad_cons (ed_ix (ed_var 0 (pv 0)).toB ed_int.toB) (ad_cons (ed_bin o_add (ed_ix (ed_var 0 (pv 0)).toB ed_int.toB).toB (ed_ix (ed_var 0 (pv 0)).toB ed_int.toB).toB) (ad_cons (ed_ix (ed_var 0 (pv 0)).toB ed_int.toB) ad_nil))))))
theorem ok_is_whole_number {f : Addr} {fd : FuncData} (bt : Bt mg) (ct : Ct K mg) (hm : mg "is_whole_number" = some (.ref f)) (F : Fun K "is_whole_number" "is_whole_number" (top 17) f fd)  : OkD P w K mg base T "is_whole_number" (top 17) 1 ["one"] sp_is_whole_number := by
  refine ⟨f, fd, hm, F, okD (g := g_is_whole_number) F sc_is_whole_number len_is_whole_number (fun cdv A outer s H E W F R hr hE hp hx => ?_) law_is_whole_number⟩
  have nd := sc_is_whole_number.nd
  have hu65 := hu65_of hr
  exact (sds_one (sd_ret (ed_and (ed_cmp (o_eq hr.units) (ed_bin o_mod (ed_ix (ed_var 0 (pv 0)).toB ed_int.toB).toB (ed_ix (ed_var 0 (pv 0)).toB ed_int.toB).toB).toB ed_int.toB (nomark _)) (ed_one (ed_cmp (o_eq hr.units) (ed_bin o_mod (ed_ix (ed_var 0 (pv 0)).toB ed_int.toB).toB (ed_ix (ed_var 0 (pv 0)).toB ed_int.toB).toB).toB ed_int.toB (nomark _))))))
theorem ok_Floor__eq {f C : Addr} {fd : FuncData} (bt : Bt mg) (ct : Ct K mg) (hm : mg "Floor" = some (.ref C)) (hq : PySem.W.findIn K (.ref C) "__eq__" = some (some (.ref f))) (hf : PySem.W.isFn K (.ref f) = true) (F : Fun K "__eq__" "Floor.__eq__" (methS 35 1) f fd)  : EqOf P w K mg base T 1 knownO "Floor" sp_Floor__eq := by
  refine eqof (by decide) hm hq hf F (fun _ _ _ _ _ _ us hl => match us, hl with | [_, _], _ => rfl) (okD (g := g_Floor__eq) F sc_Floor__eq len_Floor__eq (fun cdv A outer s H E W F R hr hE hp hx => ?_) law_Floor__eq) ty_Floor__eq
  have nd := sc_Floor__eq.nd
  have hu65 := hu65_of hr
  exact (sds_one (sd_ret (ed_and (ed_isO (n := "Floor") ct.ob (by decide) (by rfl) bt.b_isinstance (by rfl) (by decide) (ed_var 1 (pv 1)).toB) (ed_and (ed_cmp (o_eq hr.units) (ed_fld ct.fld (ed_var 0 (pv 0)).toB).toB (ed_fld ct.fld (ed_var 1 (pv 1)).toB).toB (nomark _)) (ed_one (ed_cmp (o_eq hr.units) (ed_fld ct.fld (ed_var 0 (pv 0)).toB).toB (ed_fld ct.fld (ed_var 1 (pv 1)).toB).toB (nomark _)))))))
theorem eqs_of (O : EqOf P w K mg base T 1 knownO "Floor" sp_Floor__eq) {n : Str} {sp : DSp} (h : eqsO n = some sp) : EqOf P w K mg base T 1 knownO n sp := by
  unfold eqsO at h
  split at h
  · rename_i e
    subst e
    cases h
    exact O
  · cases h
theorem ok_changed_side {f : Addr} {fd : FuncData} (bt : Bt mg) (ct : Ct K mg) (hm : mg "changed_side" = some (.ref f)) (F : Fun K "changed_side" "changed_side" (top 40) f fd)  : OkD P w K mg base T "changed_side" (top 40) 1 ["side", "direction"] sp_changed_side := by
  refine ⟨f, fd, hm, F, okD (g := g_changed_side) F sc_changed_side len_changed_side (fun cdv A outer s H E W F R hr hE hp hx => ?_) law_changed_side⟩
  have nd := sc_changed_side.nd
  have hu65 := hu65_of hr
  exact (sds_one (sd_ret (ed_callTy c_tuple (by rfl) bt.b_tuple nbTuple (abd_cons (fd_lc (own := [("j", 2), ("sign", 3)]) rfl nd (pid_enum (by rfl) bt.b_enumerate (ad_cons (ed_var 0 (pv 0)) ad_nil)) (blkOk_by (own := [("j", 2), ("sign", 3)]) (N := ["side", "direction", "j", "sign"]) (sc := defScope (top 40)) (by decide +kernel)) (ct_tup (is := [2, 3]) (by decide)) (fun _ _ _ _ _ => pg_names (is := [2, 3]) rfl (na_cons (pg_name (i := 2) nd rfl (Or.inl rfl)) (na_cons (pg_name (i := 3) nd rfl (Or.inl rfl)) na_nil))) (fun _ _ _ _ _ => tds_nil) (fun _ _ _ _ _ => (ed_if (td_cmp (o_eq hr.units) (ed_var 2 (pv 2)).toB (ed_var 1 (pv 1)).toB (nomark _)) (ed_un o_neg (ed_var 3 (pv 3)).toB) (ed_var 3 (pv 3))))).toE.toB abd_nil))))
theorem ok_unlike_signs {f : Addr} {fd : FuncData} (bt : Bt mg) (ct : Ct K mg) (hm : mg "unlike_signs" = some (.ref f)) (F : Fun K "unlike_signs" "unlike_signs" (top 46) f fd)  : OkD P w K mg base T "unlike_signs" (top 46) 1 ["one", "other"] sp_unlike_signs := by
  refine ⟨f, fd, hm, F, okD (g := g_unlike_signs) F sc_unlike_signs len_unlike_signs (fun cdv A outer s H E W F R hr hE hp hx => ?_) law_unlike_signs⟩
  have nd := sc_unlike_signs.nd
  have hu65 := hu65_of hr
  exact (sds_one (sd_ret (fd_lc (own := [("j", 2)]) rfl nd (pid_rng1 (by rfl) bt.b_range (ad_cons ed_int ad_nil)) (blkOk_by (own := [("j", 2)]) (N := ["one", "other", "j"]) (sc := defScope (top 46)) (by decide +kernel)) (ct_name (by decide)) (fun _ _ _ _ _ => pg_name (i := 2) nd rfl (Or.inl rfl)) (fun _ _ _ _ _ => (tds_one (td_cmp (o_ne hr.units) (ed_ix (ed_fld ct.fld (ed_var 0 (pv 0)).toB).toB (ed_var 2 (pv 2)).toB).toB (ed_ix (ed_fld ct.fld (ed_var 1 (pv 1)).toB).toB (ed_var 2 (pv 2)).toB).toB (nomark _)))) (fun _ _ _ _ _ => (ed_var 2 (pv 2)))).toE))
theorem ok__law_keys {f : Addr} {fd : FuncData} (bt : Bt mg) (ct : Ct K mg) (hm : mg "_law_keys" = some (.ref f)) (F : Fun K "_law_keys" "_law_keys" (top 54) f fd)  : OkD P w K mg base T "_law_keys" (top 54) 1 ["_law_r", "_law_one", "_law_other"] sp__law_keys := by
  refine ⟨f, fd, hm, F, okD (g := g__law_keys) F sc__law_keys len__law_keys (fun cdv A outer s H E W F R hr hE hp hx => ?_) law__law_keys⟩
  have nd := sc__law_keys.nd
  have hu65 := hu65_of hr
  exact (sds_cons (sd_setL (i := 3) nd rfl (Or.inl rfl) (fd_bin o_repF (fd_lst (ad_cons (ed_var 1 (pv 1)) ad_nil)).toE.toB ed_int.toB))
      (sds_cons (sd_setI (pv 3) (ed_var 2 (pv 2)) (ed_bin o_mod (ed_callTy (c_intB ct.dig) (by rfl) bt.b_int nbInt (abd_cons (ed_bin o_add (ed_var 0 (pv 0)).toB ed_int.toB).toB abd_nil)).toB ed_int.toB).toB)
      (sds_cons (sd_for hp rfl (pid_rng1 (by rfl) bt.b_range (ad_cons ed_int ad_nil)) (gd_name (pg_name (i := 4) nd rfl (Or.inl rfl))) (sds_cons (sd_par2 (i := 5) (j := 6) rfl nd rfl rfl (by decide) rfl rfl (ad_cons (ed_ix (bd_var 3 (pv 3)) (ed_bin o_mod (ed_callTy (c_intB ct.dig) (by rfl) bt.b_int nbInt (abd_cons (ed_bin o_add (ed_var 0 (pv 0)).toB (ed_var 4 (pv 4)).toB).toB abd_nil)).toB ed_int.toB).toB) (ad_cons (ed_ix (bd_var 3 (pv 3)) (ed_bin o_mod (ed_callTy (c_intB ct.dig) (by rfl) bt.b_int nbInt (abd_cons (ed_bin o_add (ed_bin o_add (ed_var 0 (pv 0)).toB (ed_var 4 (pv 4)).toB).toB ed_int.toB).toB abd_nil)).toB ed_int.toB).toB) ad_nil)) (by rfl))
      (sds_one (sd_setI (pv 3) (ed_tup (ad_cons (ed_bin o_sub (ed_un o_neg (ed_ix (ed_var 6 (pv 6)).toB ed_int.toB).toB).toB (ed_ix (ed_var 5 (pv 5)).toB ed_int.toB).toB) (ad_cons (ed_bin o_sub (ed_bin o_sub (ed_un o_neg (ed_ix (ed_var 6 (pv 6)).toB ed_int.toB).toB).toB (ed_ix (ed_var 6 (pv 6)).toB ed_int.toB).toB).toB (ed_ix (ed_var 5 (pv 5)).toB ed_int.toB).toB) ad_nil))) (ed_bin o_mod (ed_callTy (c_intB ct.dig) (by rfl) bt.b_int nbInt (abd_cons (ed_bin o_add (ed_bin o_add (ed_var 0 (pv 0)).toB (ed_var 4 (pv 4)).toB).toB ed_int.toB).toB abd_nil)).toB ed_int.toB).toB))))
      (sds_one (sd_ret (ed_callTy c_tuple (by rfl) bt.b_tuple nbTuple (abd_cons (bd_var 3 (pv 3)) abd_nil)))))))
theorem ok__law_whole {f : Addr} {fd : FuncData} (bt : Bt mg) (ct : Ct K mg) (hm : mg "_law_whole" = some (.ref f)) (F : Fun K "_law_whole" "_law_whole" (top 55) f fd)  : OkD P w K mg base T "_law_whole" (top 55) 1 ["_law_d", "_law_keys_here"] sp__law_whole := by
  refine ⟨f, fd, hm, F, okD (g := g__law_whole) F sc__law_whole len__law_whole (fun cdv A outer s H E W F R hr hE hp hx => ?_) law__law_whole⟩
  have nd := sc__law_whole.nd
  have hu65 := hu65_of hr
  exact (sds_one (sd_ret (fd_lc (own := [("_law_r", 2)]) rfl nd (pid_rng1 (by rfl) bt.b_range (ad_cons ed_int ad_nil)) (blkOk_by (own := [("_law_r", 2)]) (N := ["_law_d", "_law_keys_here", "_law_r"]) (sc := defScope (top 55)) (by decide +kernel)) (ct_name (by decide)) (fun _ _ _ _ _ => pg_name (i := 2) nd rfl (Or.inl rfl)) (fun _ _ _ _ _ => (tds_one (wd_and (td_cmp (o_eq hr.units) (ed_bin o_mod (ed_callTy (c_intB ct.dig) (by rfl) bt.b_int nbInt (abd_cons (ed_ix (ed_ix (ed_var 1 (pv 1)).toB (ed_var 2 (pv 2)).toB).toB ed_int.toB).toB abd_nil)).toB (ed_var 0 (pv 0)).toB).toB ed_int.toB (nomark _)) (wd_and1 (td_cmp (o_eq hr.units) (ed_bin o_mod (ed_callTy (c_intB ct.dig) (by rfl) bt.b_int nbInt (abd_cons (ed_ix (ed_ix (ed_var 1 (pv 1)).toB (ed_var 2 (pv 2)).toB).toB ed_int.toB).toB abd_nil)).toB (ed_var 0 (pv 0)).toB).toB ed_int.toB (nomark _)))).t)) (fun _ _ _ _ _ => (ed_var 2 (pv 2)))).toE))
theorem ok__law_same {f : Addr} {fd : FuncData} (bt : Bt mg) (ct : Ct K mg) (hm : mg "_law_same" = some (.ref f)) (F : Fun K "_law_same" "_law_same" (top 59) f fd)  : OkG P w K mg base T "_law_same" (top 59) 1 ["_law_told", "_law_due"] sp__law_same := by
  refine ⟨f, fd, hm, F, okG (g := g__law_same) F sc__law_same len__law_same (fun cdv A outer s H E W F R hG hr hE hp hx => ?_) law__law_same⟩
  have nd := sc__law_same.nd
  have hu65 := hu65_of hr
  exact (sds_one (sd_ret (ed_cmp (o_eq hr.units) (ed_callB (c_reprB ct.dig hG hu65) (by rfl) bt.b_repr nbRepr (abd_cons (ed_var 0 (pv 0)).toB abd_nil)).toB (ed_callB (c_reprB ct.dig hG hu65) (by rfl) bt.b_repr nbRepr (abd_cons (ed_var 1 (pv 1)).toB abd_nil)).toB (nomark _))))
theorem ok__law_changed {f : Addr} {fd : FuncData} (bt : Bt mg) (ct : Ct K mg) (hm : mg "_law_changed" = some (.ref f)) (F : Fun K "_law_changed" "_law_changed" (top 60) f fd)  : OkD P w K mg base T "_law_changed" (top 60) 1 ["_law_side", "_law_r"] sp__law_changed := by
  refine ⟨f, fd, hm, F, okD (g := g__law_changed) F sc__law_changed len__law_changed (fun cdv A outer s H E W F R hr hE hp hx => ?_) law__law_changed⟩
  have nd := sc__law_changed.nd
  have hu65 := hu65_of hr
  exact (sds_one (sd_ret (ed_callTy c_tuple (by rfl) bt.b_tuple nbTuple (abd_cons (fd_lc (own := [("_law_at", 2), ("_law_it", 3)]) rfl nd (pid_enum (by rfl) bt.b_enumerate (ad_cons (ed_var 0 (pv 0)) ad_nil)) (blkOk_by (own := [("_law_at", 2), ("_law_it", 3)]) (N := ["_law_side", "_law_r", "_law_at", "_law_it"]) (sc := defScope (top 60)) (by decide +kernel)) (ct_tup (is := [2, 3]) (by decide)) (fun _ _ _ _ _ => pg_names (is := [2, 3]) rfl (na_cons (pg_name (i := 2) nd rfl (Or.inl rfl)) (na_cons (pg_name (i := 3) nd rfl (Or.inl rfl)) na_nil))) (fun _ _ _ _ _ => tds_nil) (fun _ _ _ _ _ => (ed_if (td_cmp (o_eq hr.units) (ed_var 2 (pv 2)).toB (ed_var 1 (pv 1)).toB (nomark _)) (ed_un o_neg (ed_var 3 (pv 3)).toB) (ed_var 3 (pv 3))))).toE.toB abd_nil))))
theorem ok__law_moved {f : Addr} {fd : FuncData} (bt : Bt mg) (ct : Ct K mg) (hm : mg "_law_moved" = some (.ref f)) (F : Fun K "_law_moved" "_law_moved" (top 63) f fd)  : OkD P w K mg base T "_law_moved" (top 63) 1 ["_law_world_here", "_law_step"] sp__law_moved := by
  refine ⟨f, fd, hm, F, okD (g := g__law_moved) F sc__law_moved len__law_moved (fun cdv A outer s H E W F R hr hE hp hx => ?_) law__law_moved⟩
  have nd := sc__law_moved.nd
  have hu65 := hu65_of hr
  exact (sds_cons (sd_setT (is := [2, 3, 4]) rfl (na_cons (pg_name (i := 2) nd rfl (Or.inr rfl)) (na_cons (pg_name (i := 3) nd rfl (Or.inl rfl)) (na_cons (pg_name (i := 4) nd rfl (Or.inl rfl)) na_nil))) (ed_var 0 (pv 0)))
      (sds_cons (sd_setLc (i := 5) (own := [("_law_r", 6)]) rfl nd rfl rfl (sw_true rfl rfl rfl (by decide +kernel)) (pid_rng1 (by rfl) bt.b_range (ad_cons ed_int ad_nil)) (blkOk_by (own := [("_law_r", 6)]) (N := ["_law_world_here", "_law_step", "_law_d", "_law_keys_here", "_law_side", "_law_more", "_law_r", "_law_a", "_law_b", "_law_x", "_law_y"]) (sc := defScope (top 63)) (by decide +kernel)) (ct_name (by decide)) (fun _ _ _ _ _ => pg_name (i := 6) nd rfl (Or.inl rfl)) (fun _ _ _ _ _ => tds_nil) (fun _ _ _ _ _ => (ed_tup (ad_cons (ed_bin o_add (ed_bin o_add (ed_ix (ed_var 1 (pv 1)).toB (ed_bin o_sub (ed_var 6 (pv 6)).toB ed_int.toB).toB).toB (ed_ix (ed_var 1 (pv 1)).toB (ed_var 6 (pv 6)).toB).toB).toB (ed_ix (ed_var 1 (pv 1)).toB (ed_bin o_sub (ed_var 6 (pv 6)).toB ed_int.toB).toB).toB) (ad_cons (ed_un o_neg (ed_ix (ed_var 1 (pv 1)).toB (ed_var 6 (pv 6)).toB).toB) ad_nil)))))
      (sds_one (sd_ret (ed_tup (ad_cons (ed_var 2 (pv 2)) (ad_cons (ed_callTy c_tuple (by rfl) bt.b_tuple nbTuple (abd_cons (fd_lc (own := [("_law_a", 7), ("_law_b", 8), ("_law_x", 9), ("_law_y", 10)]) rfl nd (pid_zipM (by rfl) bt.b_zip (ad_cons (ed_var 3 (pv 3)) (ad_cons (ed_var 5 (pv 5)) ad_nil))) (blkOk_by (own := [("_law_a", 7), ("_law_b", 8), ("_law_x", 9), ("_law_y", 10)]) (N := ["_law_world_here", "_law_step", "_law_d", "_law_keys_here", "_law_side", "_law_more", "_law_r", "_law_a", "_law_b", "_law_x", "_law_y"]) (sc := defScope (top 63)) (by decide +kernel)) (ct_tupG (cts_cons (ct_tupG (cts_cons (ct_name (by decide)) (cts_cons (ct_name (by decide)) cts_nil))) (cts_cons (ct_tupG (cts_cons (ct_name (by decide)) (cts_cons (ct_name (by decide)) cts_nil))) cts_nil))) (fun _ _ _ _ _ => (pg_tup rfl (pgs_cons (pg_tup rfl (pgs_cons (pg_name (i := 7) nd rfl (Or.inl rfl)) (pgs_cons (pg_name (i := 8) nd rfl (Or.inl rfl)) pgs_nil))) (pgs_cons (pg_tup rfl (pgs_cons (pg_name (i := 9) nd rfl (Or.inl rfl)) (pgs_cons (pg_name (i := 10) nd rfl (Or.inl rfl)) pgs_nil))) pgs_nil)))) (fun _ _ _ _ _ => tds_nil) (fun _ _ _ _ _ => (ed_tup (ad_cons (ed_bin o_add (ed_var 7 (pv 7)).toB (ed_bin o_mul (ed_var 2 (pv 2)).toB (ed_var 9 (pv 9)).toB).toB) (ad_cons (ed_bin o_add (ed_var 8 (pv 8)).toB (ed_bin o_mul (ed_var 2 (pv 2)).toB (ed_var 10 (pv 10)).toB).toB) ad_nil))))).toE.toB abd_nil)) (ad_cons (ed_var 4 (pv 4)) ad_nil))))))))
theorem ok_is_number {f : Addr} {fd : FuncData} (bt : Bt mg) (ct : Ct K mg) (hm : mg "is_number" = some (.ref f)) (F : Fun K "is_number" "is_number" (top 11) f fd) (O_is_integer : OkD P w K mg base T "is_integer" (top 10) 1 ["thing"] sp_is_integer) : OkD P w K mg base T "is_number" (top 11) 2 ["thing"] sp_is_number := by
  refine ⟨f, fd, hm, F, okD (g := g_is_number) F sc_is_number len_is_number (fun cdv A outer s H E W F R hr hE hp hx => ?_) law_is_number⟩
  have nd := sc_is_number.nd
  have hu65 := hu65_of hr
  exact (sds_cons (sd_if (wd_or (td_not (td_val (ed_callB (c_isiX ct.ob) (by rfl) bt.b_isinstance nbIsi (abd_cons (ed_var 0 (pv 0)).toB (abd_cons (ed_ty (by rfl) bt.b_tuple nbTuple).toB abd_nil))).toB)) (wd_or1 (td_cmp (o_ne hr.units) (ed_callB c_len (by rfl) bt.b_len nbLen (abd_cons (ed_var 0 (pv 0)).toB abd_nil)).toB ed_int.toB (nomark _)))).t (sds_one (sd_ret ed_bl)) sds_nil)
      (sds_one (sd_ret (ed_and (ed_o (B := ⟨⟨W, T⟩, F, H⟩) (k := 1) O_is_integer bp_is_integer (hr.mono (by decide)) hx hE (ad_cons (ed_ix (ed_var 0 (pv 0)).toB ed_int.toB) ad_nil)) (ed_and (ed_o (B := ⟨⟨W, T⟩, F, H⟩) (k := 1) O_is_integer bp_is_integer (hr.mono (by decide)) hx hE (ad_cons (ed_ix (ed_var 0 (pv 0)).toB ed_int.toB) ad_nil)) (ed_and (ed_o (B := ⟨⟨W, T⟩, F, H⟩) (k := 1) O_is_integer bp_is_integer (hr.mono (by decide)) hx hE (ad_cons (ed_ix (ed_var 0 (pv 0)).toB ed_int.toB) ad_nil)) (ed_one (ed_cmp o_ge (ed_ix (ed_var 0 (pv 0)).toB ed_int.toB).toB ed_int.toB (nomark _)))))))))
theorem ok_added {f : Addr} {fd : FuncData} (bt : Bt mg) (ct : Ct K mg) (hm : mg "added" = some (.ref f)) (F : Fun K "added" "added" (top 14) f fd) (O_normal : OkD P w K mg base T "normal" (top 12) 1 ["a", "b", "d"] sp_normal) : OkD P w K mg base T "added" (top 14) 2 ["one", "other"] sp_added := by
  refine ⟨f, fd, hm, F, okD (g := g_added) F sc_added len_added (fun cdv A outer s H E W F R hr hE hp hx => ?_) law_added⟩
  have nd := sc_added.nd
  have hu65 := hu65_of hr
  exact (sds_cons (sd_set (i := 2) nd rfl (Or.inl rfl) (ed_bin o_mul (ed_ix (ed_var 0 (pv 0)).toB ed_int.toB).toB (ed_ix (ed_var 1 (pv 1)).toB ed_int.toB).toB))
      (sds_one (sd_ret (ed_o (B := ⟨⟨W, T⟩, F, H⟩) (k := 1) O_normal bp_normal (hr.mono (by decide)) hx hE (ad_cons (ed_bin o_add (ed_bin o_mul (ed_ix (ed_var 0 (pv 0)).toB ed_int.toB).toB (ed_ix (ed_var 1 (pv 1)).toB ed_int.toB).toB).toB (ed_bin o_mul (ed_ix (ed_var 1 (pv 1)).toB ed_int.toB).toB (ed_ix (ed_var 0 (pv 0)).toB ed_int.toB).toB).toB) (ad_cons (ed_bin o_add (ed_bin o_mul (ed_ix (ed_var 0 (pv 0)).toB ed_int.toB).toB (ed_ix (ed_var 1 (pv 1)).toB ed_int.toB).toB).toB (ed_bin o_mul (ed_ix (ed_var 1 (pv 1)).toB ed_int.toB).toB (ed_ix (ed_var 0 (pv 0)).toB ed_int.toB).toB).toB) (ad_cons (ed_var 2 (pv 2)) ad_nil)))))))
theorem ok_is_direction {f : Addr} {fd : FuncData} (bt : Bt mg) (ct : Ct K mg) (hm : mg "is_direction" = some (.ref f)) (F : Fun K "is_direction" "is_direction" (top 19) f fd) (O_is_integer : OkD P w K mg base T "is_integer" (top 10) 1 ["thing"] sp_is_integer) : OkD P w K mg base T "is_direction" (top 19) 2 ["thing"] sp_is_direction := by
  refine ⟨f, fd, hm, F, okD (g := g_is_direction) F sc_is_direction len_is_direction (fun cdv A outer s H E W F R hr hE hp hx => ?_) law_is_direction⟩
  have nd := sc_is_direction.nd
  have hu65 := hu65_of hr
  exact (sds_one (sd_ret (ed_and (ed_o (B := ⟨⟨W, T⟩, F, H⟩) (k := 1) O_is_integer bp_is_integer (hr.mono (by decide)) hx hE (ad_cons (ed_var 0 (pv 0)) ad_nil)) (ed_one (ed_chain o_le o_le ed_int.toB (ed_var 0 (pv 0)).toB ed_int.toB)))))
theorem ok_whole_directions {f : Addr} {fd : FuncData} (bt : Bt mg) (ct : Ct K mg) (hm : mg "whole_directions" = some (.ref f)) (F : Fun K "whole_directions" "whole_directions" (top 32) f fd) (O_is_whole_number : OkD P w K mg base T "is_whole_number" (top 17) 1 ["one"] sp_is_whole_number) : OkD P w K mg base T "whole_directions" (top 32) 2 ["keys"] sp_whole_directions := by
  refine ⟨f, fd, hm, F, okD (g := g_whole_directions) F sc_whole_directions len_whole_directions (fun cdv A outer s H E W F R hr hE hp hx => ?_) law_whole_directions⟩
  have nd := sc_whole_directions.nd
  have hu65 := hu65_of hr
  exact (sds_one (sd_ret (ed_callTy c_tuple (by rfl) bt.b_tuple nbTuple (abd_cons (fd_lc (own := [("r", 1)]) rfl nd (pid_rng1 (by rfl) bt.b_range (ad_cons ed_int ad_nil)) (blkOk_by (own := [("r", 1)]) (N := ["keys", "r"]) (sc := defScope (top 32)) (by decide +kernel)) (ct_name (by decide)) (fun _ _ _ _ _ => pg_name (i := 1) nd rfl (Or.inl rfl)) (fun _ _ _ _ _ => (tds_one (td_val (ed_o (B := ⟨⟨W, T⟩, F, H⟩) (k := 1) O_is_whole_number bp_is_whole_number (hr.mono (by decide)) passL FinE.none (ad_cons (ed_ix (ed_var 0 (pv 0)).toB (ed_var 1 (pv 1)).toB) ad_nil)).toB))) (fun _ _ _ _ _ => (ed_var 1 (pv 1)))).toE.toB abd_nil))))
theorem ok__law_pick {f : Addr} {fd : FuncData} (bt : Bt mg) (ct : Ct K mg) (hm : mg "_law_pick" = some (.ref f)) (F : Fun K "_law_pick" "_law_pick" (top 52) f fd) (O__law_draw : OkD P w K mg base T "_law_draw" (top 51) 1 ["_law_deck_here", "_law_many"] spDraw) : OkD P w K mg base T "_law_pick" (top 52) 2 ["_law_deck_here", "_law_some"] sp__law_pick := by
  refine ⟨f, fd, hm, F, okD (g := g__law_pick) F sc__law_pick len__law_pick (fun cdv A outer s H E W F R hr hE hp hx => ?_) law__law_pick⟩
  have nd := sc__law_pick.nd
  have hu65 := hu65_of hr
  exact (sds_one (sd_ret (ed_ix (ed_var 1 (pv 1)).toB (ed_o (B := ⟨⟨W, T⟩, F, H⟩) (k := 1) O__law_draw bp__law_draw (hr.mono (by decide)) hx hE (ad_cons (ed_var 0 (pv 0)) (ad_cons (ed_callB c_len (by rfl) bt.b_len nbLen (abd_cons (ed_var 1 (pv 1)).toB abd_nil)) ad_nil))).toB)))
theorem ok__law_number {f : Addr} {fd : FuncData} (bt : Bt mg) (ct : Ct K mg) (hm : mg "_law_number" = some (.ref f)) (F : Fun K "_law_number" "_law_number" (top 53) f fd) (O__law_draw : OkD P w K mg base T "_law_draw" (top 51) 1 ["_law_deck_here", "_law_many"] spDraw) : OkD P w K mg base T "_law_number" (top 53) 2 ["_law_deck_here"] sp__law_number := by
  refine ⟨f, fd, hm, F, okD (g := g__law_number) F sc__law_number len__law_number (fun cdv A outer s H E W F R hr hE hp hx => ?_) law__law_number⟩
  have nd := sc__law_number.nd
  have hu65 := hu65_of hr
  exact (sds_cons (sd_set (i := 1) nd rfl (Or.inl rfl) (ed_o (B := ⟨⟨W, T⟩, F, H⟩) (k := 1) O__law_draw bp__law_draw (hr.mono (by decide)) hx hE (ad_cons (ed_var 0 (pv 0)) (ad_cons ed_int ad_nil))))
      (sds_cons (sd_if (td_cmp o_lt (ed_var 1 (pv 1)).toB ed_int.toB (nomark _)) (sds_one (sd_ret (ed_bin o_sub (ed_o (B := ⟨⟨W, T⟩, F, H⟩) (k := 1) O__law_draw bp__law_draw (hr.mono (by decide)) hx hE (ad_cons (ed_var 0 (pv 0)) (ad_cons ed_int ad_nil))).toB ed_int.toB))) sds_nil)
      (sds_cons (sd_par2 (i := 2) (j := 3) rfl nd rfl rfl (by decide) rfl rfl (ad_cons ed_int (ad_cons (ed_bin o_sub ed_int.toB (ed_bin o_mul ed_int.toB (ed_o (B := ⟨⟨W, T⟩, F, H⟩) (k := 1) O__law_draw bp__law_draw (hr.mono (by decide)) hx hE (ad_cons (ed_var 0 (pv 0)) (ad_cons ed_int ad_nil))).toB).toB) ad_nil)) (by rfl))
      (sds_cons (sd_for hp rfl (pid_rng1 (by rfl) bt.b_range (ad_cons (ed_if (td_cmp (o_eq hr.units) (ed_var 1 (pv 1)).toB ed_int.toB (nomark _)) ed_int ed_int) ad_nil)) (gd_name (pg_name (i := 4) nd rfl (Or.inl rfl))) (sds_one (sd_set (i := 2) nd rfl (Or.inl rfl) (ed_bin o_add (ed_bin o_mul (ed_var 2 (pv 2)).toB ed_int.toB).toB (ed_o (B := ⟨⟨W, T⟩, F, H⟩) (k := 1) O__law_draw bp__law_draw (hr.mono (by decide)) hx hE (ad_cons (ed_var 0 (pv 0)) (ad_cons ed_int ad_nil))).toB))))
      (sds_one (sd_ret (ed_bin o_mul (ed_var 3 (pv 3)).toB (ed_var 2 (pv 2)).toB)))))))
theorem ok__law_sides {f : Addr} {fd : FuncData} (bt : Bt mg) (ct : Ct K mg) (hm : mg "_law_sides" = some (.ref f)) (F : Fun K "_law_sides" "_law_sides" (top 56) f fd) (O__law_whole : OkD P w K mg base T "_law_whole" (top 55) 1 ["_law_d", "_law_keys_here"] sp__law_whole) : OkD P w K mg base T "_law_sides" (top 56) 2 ["_law_d", "_law_keys_here"] sp__law_sides := by
  refine ⟨f, fd, hm, F, okD (g := g__law_sides) F sc__law_sides len__law_sides (fun cdv A outer s H E W F R hr hE hp hx => ?_) law__law_sides⟩
  have nd := sc__law_sides.nd
  have hu65 := hu65_of hr
  exact (sds_cons (sd_set (i := 2) nd rfl (Or.inr rfl) (ed_o (B := ⟨⟨W, T⟩, F, H⟩) (k := 1) O__law_whole bp__law_whole (hr.mono (by decide)) hx hE (ad_cons (ed_var 0 (pv 0)) (ad_cons (ed_var 1 (pv 1)) ad_nil))))
      (sds_cons (sd_if (td_cmp (o_eq hr.units) (ed_var 2 (pv 2)).toB (fd_lst ad_nil).toE.toB (nomark _)) (sds_one (sd_ret (fd_lst (ad_cons (ed_tup (ad_cons ed_int (ad_cons ed_int (ad_cons ed_int (ad_cons ed_int (ad_cons ed_int ad_nil)))))) ad_nil)).toE)) sds_nil)
      (sds_cons (sd_if (td_cmp (o_eq hr.units) (ed_callB c_len (by rfl) bt.b_len nbLen (abd_cons (ed_var 2 (pv 2)).toB abd_nil)).toB ed_int.toB (nomark _)) (sds_one (sd_ret (fd_lc (own := [("_law_side", 6)]) rfl nd (pid_data (ed_tup (ad_cons (ed_un o_neg ed_int.toB) (ad_cons ed_int ad_nil)))) (blkOk_by (own := [("_law_side", 6)]) (N := ["_law_d", "_law_keys_here", "_law_whole_here", "_law_row", "_law_found", "_law_turn", "_law_side", "_law_r", "_law_it"]) (sc := defScope (top 56)) (by decide +kernel)) (ct_name (by decide)) (fun _ _ _ _ _ => pg_name (i := 6) nd rfl (Or.inr rfl)) (fun _ _ _ _ _ => tds_nil) (fun _ _ _ _ _ => (ed_callTy c_tuple (by rfl) bt.b_tuple nbTuple (abd_cons (ED.toB (FD.toE (fd_lc (own := [("_law_r", 7)]) rfl nd (pid_rng1 (by rfl) bt.b_range (ad_cons ed_int ad_nil)) (blkOk_by (by kernel_rfl)) (ct_name (by decide)) (fun _ _ _ _ _ => pg_name (i := 7) nd rfl (Or.inl rfl)) (fun _ _ _ _ _ => tds_nil) (fun _ _ _ _ _ => (ed_if (td_cmp (o_eq hr.units) (ed_var 7 (pv 7)).toB (ed_ix (ed_var 2 (pv 2)).toB ed_int.toB).toB (nomark _)) (ed_var 6 (pv 6)) ed_int))))) abd_nil)))).toE)) sds_nil)
      (sds_cons (sd_parR (i := 3) (j := 4) rfl nd rfl rfl (by decide) rfl rfl (ed_tup (ad_cons ed_int (ad_cons (ed_un o_neg ed_int.toB) (ad_cons ed_int (ad_cons ed_int (ad_cons (ed_un o_neg ed_int.toB) ad_nil)))))) (fd_lst ad_nil) (by rfl))
      (sds_cons (sd_for hp rfl (pid_rng1 (by rfl) bt.b_range (ad_cons ed_int ad_nil)) (gd_name (pg_name (i := 5) nd rfl (Or.inl rfl))) (sds_cons (sd_extE (pv 4) (fd_lst (ad_cons (ed_var 3 (pv 3)) (ad_cons (ed_callTy c_tuple (by rfl) bt.b_tuple nbTuple (abd_cons (fd_lc (own := [("_law_it", 8)]) rfl nd (pid_data (ed_var 3 (pv 3))) (blkOk_by (own := [("_law_it", 8)]) (N := ["_law_d", "_law_keys_here", "_law_whole_here", "_law_row", "_law_found", "_law_turn", "_law_side", "_law_r", "_law_it"]) (sc := defScope (top 56)) (by decide +kernel)) (ct_name (by decide)) (fun _ _ _ _ _ => pg_name (i := 8) nd rfl (Or.inl rfl)) (fun _ _ _ _ _ => tds_nil) (fun _ _ _ _ _ => (ed_un o_neg (ed_var 8 (pv 8)).toB))).toE.toB abd_nil)) ad_nil))).toE)
      (sds_one (sd_set (i := 3) nd rfl (Or.inl rfl) (ed_bin o_add (ed_sl (ed_var 3 (pv 3)).toB (od_some (ed_un o_neg ed_int.toB)) od_none).toB (ed_sl (ed_var 3 (pv 3)).toB od_none (od_some (ed_un o_neg ed_int.toB))).toB)))))
      (sds_one (sd_ret (fd_callB c_sortT (by rfl) bt.b_sorted nbSorted (abd_cons (bd_var 4 (pv 4)) abd_nil)).toE)))))))
theorem ok__law_turns {f : Addr} {fd : FuncData} (bt : Bt mg) (ct : Ct K mg) (hm : mg "_law_turns" = some (.ref f)) (F : Fun K "_law_turns" "_law_turns" (top 66) f fd) (O__law_changed : OkD P w K mg base T "_law_changed" (top 60) 1 ["_law_side", "_law_r"] sp__law_changed) : OkD P w K mg base T "_law_turns" (top 66) 2 ["_law_sides_here", "_law_one", "_law_other"] sp__law_turns := by
  refine ⟨f, fd, hm, F, okD (g := g__law_turns) F sc__law_turns len__law_turns (fun cdv A outer s H E W F R hr hE hp hx => ?_) law__law_turns⟩
  have nd := sc__law_turns.nd
  have hu65 := hu65_of hr
  exact (sds_cons (sd_set (i := 3) nd rfl (Or.inl rfl) (fd_lst (ad_cons (ed_tup (ad_cons (ed_tup ad_nil) (ad_cons (ed_var 1 (pv 1)) ad_nil))) ad_nil)).toE)
      (sds_cons (sd_for hp rfl (pid_rng1 (by rfl) bt.b_range (ad_cons (ed_callB c_len (by rfl) bt.b_len nbLen (abd_cons (fd_lc (own := [("_law_r", 8)]) rfl nd (pid_rng1 (by rfl) bt.b_range (ad_cons ed_int ad_nil)) (blkOk_by (own := [("_law_r", 8)]) (N := ["_law_sides_here", "_law_one", "_law_other", "_law_found", "_law_turn", "_law_more", "_law_turns_here", "_law_side", "_law_r"]) (sc := defScope (top 66)) (by decide +kernel)) (ct_name (by decide)) (fun _ _ _ _ _ => pg_name (i := 8) nd rfl (Or.inl rfl)) (fun _ _ _ _ _ => (tds_one (td_cmp (o_ne hr.units) (ed_ix (ed_var 1 (pv 1)).toB (ed_var 8 (pv 8)).toB).toB (ed_ix (ed_var 2 (pv 2)).toB (ed_var 8 (pv 8)).toB).toB (nomark _)))) (fun _ _ _ _ _ => (ed_var 8 (pv 8)))).toE.toB abd_nil)) ad_nil)) (gd_name (pg_name (i := 4) nd rfl (Or.inl rfl))) (sds_cons (sd_setL (i := 5) nd rfl (Or.inl rfl) (fd_lst ad_nil))
      (sds_cons (sd_for hp rfl (pid_data (ed_var 3 (pv 3))) (gd_tup (is := [6, 7]) rfl (na_cons (pg_name (i := 6) nd rfl (Or.inl rfl)) (na_cons (pg_name (i := 7) nd rfl (Or.inl rfl)) na_nil))) (sds_one (sd_for hp rfl (pid_rng1 (by rfl) bt.b_range (ad_cons ed_int ad_nil)) (gd_name (pg_name (i := 8) nd rfl (Or.inl rfl))) (sds_one (sd_if (wd_and (td_cmp (o_ne hr.units) (ed_ix (ed_var 7 (pv 7)).toB (ed_var 8 (pv 8)).toB).toB (ed_ix (ed_var 2 (pv 2)).toB (ed_var 8 (pv 8)).toB).toB (nomark _)) (wd_and1 (td_cmp (o_in hu65) (ed_o (B := ⟨⟨W, T⟩, F, H⟩) (k := 1) O__law_changed bp__law_changed (hr.mono (by decide)) hx hE (ad_cons (ed_var 7 (pv 7)) (ad_cons (ed_var 8 (pv 8)) ad_nil))).toB (ed_var 0 (pv 0)).toB (by rfl)))).t (sds_one (sd_appE (pv 5) (ed_tup (ad_cons (ed_bin o_add (ed_var 6 (pv 6)).toB (ed_tup (ad_cons (ed_var 8 (pv 8)) ad_nil)).toB) (ad_cons (ed_o (B := ⟨⟨W, T⟩, F, H⟩) (k := 1) O__law_changed bp__law_changed (hr.mono (by decide)) hx hE (ad_cons (ed_var 7 (pv 7)) (ad_cons (ed_var 8 (pv 8)) ad_nil))) ad_nil))))) sds_nil)))))
      (sds_one (sd_fz 5 (sd_set (i := 3) nd rfl (Or.inl rfl) (ed_var 5 (pv 5))))))))
      (sds_one (sd_ret (fd_lc (own := [("_law_turns_here", 6), ("_law_side", 7)]) rfl nd (pid_data (ed_var 3 (pv 3))) (blkOk_by (own := [("_law_turns_here", 6), ("_law_side", 7)]) (N := ["_law_sides_here", "_law_one", "_law_other", "_law_found", "_law_turn", "_law_more", "_law_turns_here", "_law_side", "_law_r"]) (sc := defScope (top 66)) (by decide +kernel)) (ct_tup (is := [6, 7]) (by decide)) (fun _ _ _ _ _ => pg_names (is := [6, 7]) rfl (na_cons (pg_name (i := 6) nd rfl (Or.inl rfl)) (na_cons (pg_name (i := 7) nd rfl (Or.inl rfl)) na_nil))) (fun _ _ _ _ _ => tds_nil) (fun _ _ _ _ _ => (ed_var 6 (pv 6)))).toE))))
theorem ok_taken {f : Addr} {fd : FuncData} (bt : Bt mg) (ct : Ct K mg) (hm : mg "taken" = some (.ref f)) (F : Fun K "taken" "taken" (top 15) f fd) (O_added : OkD P w K mg base T "added" (top 14) 2 ["one", "other"] sp_added) (O_negative : OkD P w K mg base T "negative" (top 13) 1 ["one"] sp_negative) : OkD P w K mg base T "taken" (top 15) 3 ["one", "other"] sp_taken := by
  refine ⟨f, fd, hm, F, okD (g := g_taken) F sc_taken len_taken (fun cdv A outer s H E W F R hr hE hp hx => ?_) law_taken⟩
  have nd := sc_taken.nd
  have hu65 := hu65_of hr
  exact (sds_one (sd_ret (ed_o (B := ⟨⟨W, T⟩, F, H⟩) (k := 2) O_added bp_added (hr.mono (by decide)) hx hE (ad_cons (ed_var 0 (pv 0)) (ad_cons (ed_o (B := ⟨⟨W, T⟩, F, H⟩) (k := 1) O_negative bp_negative (hr.mono (by decide)) hx hE (ad_cons (ed_var 1 (pv 1)) ad_nil)) ad_nil)))))
theorem ok_sides_of {f : Addr} {fd : FuncData} (bt : Bt mg) (ct : Ct K mg) (hm : mg "sides_of" = some (.ref f)) (F : Fun K "sides_of" "sides_of" (top 33) f fd) (O_whole_directions : OkD P w K mg base T "whole_directions" (top 32) 2 ["keys"] sp_whole_directions) : OkD P w K mg base T "sides_of" (top 33) 3 ["keys"] sp_sides_of := by
  refine ⟨f, fd, hm, F, okD (g := g_sides_of) F sc_sides_of len_sides_of (fun cdv A outer s H E W F R hr hE hp hx => ?_) law_sides_of⟩
  have nd := sc_sides_of.nd
  have hu65 := hu65_of hr
  exact (sds_cons (sd_set (i := 1) nd rfl (Or.inl rfl) (ed_o (B := ⟨⟨W, T⟩, F, H⟩) (k := 2) O_whole_directions bp_whole_directions (hr.mono (by decide)) hx hE (ad_cons (ed_var 0 (pv 0)) ad_nil)))
      (sds_cons (sd_if (td_cmp (o_eq hr.units) (ed_callB c_len (by rfl) bt.b_len nbLen (abd_cons (ed_var 1 (pv 1)).toB abd_nil)).toB ed_int.toB (nomark _)) (sds_one (sd_ret (ed_tup (ad_cons (ed_glob ct.gl_NO_SIDE) ad_nil)))) sds_nil)
      (sds_cons (sd_if (td_cmp (o_eq hr.units) (ed_callB c_len (by rfl) bt.b_len nbLen (abd_cons (ed_var 1 (pv 1)).toB abd_nil)).toB ed_int.toB (nomark _)) (sds_cons (sd_set (i := 4) nd rfl (Or.inr rfl) (ed_ix (ed_var 1 (pv 1)).toB ed_int.toB))
      (sds_cons (sd_set (i := 5) nd rfl (Or.inl rfl) (ed_callTy c_tuple (by rfl) bt.b_tuple nbTuple (abd_cons (fd_lc (own := [("j", 6)]) rfl nd (pid_rng1 (by rfl) bt.b_range (ad_cons ed_int ad_nil)) (blkOk_by (own := [("j", 6)]) (N := ["keys", "directions", "found", "turns", "r", "one", "j", "part"]) (sc := defScope (top 33)) (by decide +kernel)) (ct_name (by decide)) (fun _ _ _ _ _ => pg_name (i := 6) nd rfl (Or.inl rfl)) (fun _ _ _ _ _ => tds_nil) (fun _ _ _ _ _ => (ed_if (td_cmp (o_eq hr.units) (ed_var 6 (pv 6)).toB (ed_var 4 (pv 4)).toB (nomark _)) ed_int ed_int))).toE.toB abd_nil)))
      (sds_one (sd_ret (ed_tup (ad_cons (ed_callTy c_tuple (by rfl) bt.b_tuple nbTuple (abd_cons (fd_lc (own := [("part", 7)]) rfl nd (pid_data (ed_var 5 (pv 5))) (blkOk_by (own := [("part", 7)]) (N := ["keys", "directions", "found", "turns", "r", "one", "j", "part"]) (sc := defScope (top 33)) (by decide +kernel)) (ct_name (by decide)) (fun _ _ _ _ _ => pg_name (i := 7) nd rfl (Or.inl rfl)) (fun _ _ _ _ _ => tds_nil) (fun _ _ _ _ _ => (ed_un o_neg (ed_var 7 (pv 7)).toB))).toE.toB abd_nil)) (ad_cons (ed_var 5 (pv 5)) ad_nil))))))) sds_nil)
      (sds_cons (sd_setL (i := 2) nd rfl (Or.inl rfl) (fd_lst ad_nil))
      (sds_cons (sd_for hp rfl (pid_rng1 (by rfl) bt.b_range (ad_cons ed_int ad_nil)) (gd_name (pg_name (i := 3) nd rfl (Or.inr rfl))) (sds_cons (sd_set (i := 5) nd rfl (Or.inl rfl) (ed_callTy c_tuple (by rfl) bt.b_tuple nbTuple (abd_cons (fd_lc (own := [("j", 6)]) rfl nd (pid_rng1 (by rfl) bt.b_range (ad_cons ed_int ad_nil)) (blkOk_by (own := [("j", 6)]) (N := ["keys", "directions", "found", "turns", "r", "one", "j", "part"]) (sc := defScope (top 33)) (by decide +kernel)) (ct_name (by decide)) (fun _ _ _ _ _ => pg_name (i := 6) nd rfl (Or.inl rfl)) (fun _ _ _ _ _ => tds_nil) (fun _ _ _ _ _ => (ed_ix (ed_glob ct.gl_FIRST_SIDE).toB (ed_bin o_mod (ed_bin o_sub (ed_var 6 (pv 6)).toB (ed_var 3 (pv 3)).toB).toB ed_int.toB).toB))).toE.toB abd_nil)))
      (sds_cons (sd_appE (pv 2) (ed_var 5 (pv 5)))
      (sds_one (sd_appE (pv 2) (ed_callTy c_tuple (by rfl) bt.b_tuple nbTuple (abd_cons (fd_lc (own := [("part", 7)]) rfl nd (pid_data (ed_var 5 (pv 5))) (blkOk_by (own := [("part", 7)]) (N := ["keys", "directions", "found", "turns", "r", "one", "j", "part"]) (sc := defScope (top 33)) (by decide +kernel)) (ct_name (by decide)) (fun _ _ _ _ _ => pg_name (i := 7) nd rfl (Or.inl rfl)) (fun _ _ _ _ _ => tds_nil) (fun _ _ _ _ _ => (ed_un o_neg (ed_var 7 (pv 7)).toB))).toE.toB abd_nil)))))))
      (sds_one (sd_ret (ed_callTy c_tuple (by rfl) bt.b_tuple nbTuple (abd_cons (fd_callB c_sortT (by rfl) bt.b_sorted nbSorted (abd_cons (bd_var 2 (pv 2)) abd_nil)).toE.toB abd_nil)))))))))
theorem ok_whole_keys {f : Addr} {fd : FuncData} (bt : Bt mg) (ct : Ct K mg) (hm : mg "whole_keys" = some (.ref f)) (F : Fun K "whole_keys" "whole_keys" (top 38) f fd) (O_whole_directions : OkD P w K mg base T "whole_directions" (top 32) 2 ["keys"] sp_whole_directions) : OkD P w K mg base T "whole_keys" (top 38) 3 ["floor"] sp_whole_keys := by
  refine ⟨f, fd, hm, F, okD (g := g_whole_keys) F sc_whole_keys len_whole_keys (fun cdv A outer s H E W F R hr hE hp hx => ?_) law_whole_keys⟩
  have nd := sc_whole_keys.nd
  have hu65 := hu65_of hr
  exact (sds_one (sd_ret (ed_o (B := ⟨⟨W, T⟩, F, H⟩) (k := 2) O_whole_directions bp_whole_directions (hr.mono (by decide)) hx hE (ad_cons (ed_fld ct.fld (ed_var 0 (pv 0)).toB) ad_nil))))
theorem ok__law_world {f : Addr} {fd : FuncData} (bt : Bt mg) (ct : Ct K mg) (hm : mg "_law_world" = some (.ref f)) (F : Fun K "_law_world" "_law_world" (top 57) f fd) (O__law_pick : OkD P w K mg base T "_law_pick" (top 52) 2 ["_law_deck_here", "_law_some"] sp__law_pick) (O__law_draw : OkD P w K mg base T "_law_draw" (top 51) 1 ["_law_deck_here", "_law_many"] spDraw) (O__law_keys : OkD P w K mg base T "_law_keys" (top 54) 1 ["_law_r", "_law_one", "_law_other"] sp__law_keys) (O__law_sides : OkD P w K mg base T "_law_sides" (top 56) 2 ["_law_d", "_law_keys_here"] sp__law_sides) (O__law_number : OkD P w K mg base T "_law_number" (top 53) 2 ["_law_deck_here"] sp__law_number) : OkD P w K mg base T "_law_world" (top 57) 3 ["_law_deck_here", "_law_edge"] sp__law_world := by
  refine ⟨f, fd, hm, F, okD (g := g__law_world) F sc__law_world len__law_world (fun cdv A outer s H E W F R hr hE hp hx => ?_) law__law_world⟩
  have nd := sc__law_world.nd
  have hu65 := hu65_of hr
  exact (sds_cons (sd_set (i := 2) nd rfl (Or.inl rfl) (ed_o (B := ⟨⟨W, T⟩, F, H⟩) (k := 2) O__law_pick bp__law_pick (hr.mono (by decide)) hx hE (ad_cons (ed_var 0 (pv 0)) (ad_cons (ed_tup (ad_cons ed_int (ad_cons ed_int (ad_cons ed_int (ad_cons ed_int (ad_cons ed_int (ad_cons ed_int (ad_cons ed_int (ad_cons ed_int (ad_cons ed_int (ad_cons ed_int (ad_cons ed_int (ad_cons ed_int (ad_cons ed_int (ad_cons ed_int (ad_cons ed_int (ad_cons ed_int ad_nil))))))))))))))))) ad_nil))))
      (sds_cons (sd_set (i := 3) nd rfl (Or.inl rfl) (ed_o (B := ⟨⟨W, T⟩, F, H⟩) (k := 1) O__law_draw bp__law_draw (hr.mono (by decide)) hx hE (ad_cons (ed_var 0 (pv 0)) (ad_cons ed_int ad_nil))))
      (sds_cons (sd_set (i := 4) nd rfl (Or.inl rfl) (ed_tup (ad_cons (ed_o (B := ⟨⟨W, T⟩, F, H⟩) (k := 1) O__law_draw bp__law_draw (hr.mono (by decide)) hx hE (ad_cons (ed_var 0 (pv 0)) (ad_cons (ed_var 2 (pv 2)) ad_nil))) (ad_cons (ed_o (B := ⟨⟨W, T⟩, F, H⟩) (k := 1) O__law_draw bp__law_draw (hr.mono (by decide)) hx hE (ad_cons (ed_var 0 (pv 0)) (ad_cons (ed_var 2 (pv 2)) ad_nil))) ad_nil))))
      (sds_cons (sd_if (td_val (ed_var 1 (pv 1)).toB) (sds_one (sd_set (i := 4) nd rfl (Or.inl rfl) (ed_tup (ad_cons ed_int (ad_cons ed_int ad_nil))))) sds_nil)
      (sds_cons (sd_set (i := 5) nd rfl (Or.inl rfl) (ed_tup (ad_cons (ed_o (B := ⟨⟨W, T⟩, F, H⟩) (k := 1) O__law_draw bp__law_draw (hr.mono (by decide)) hx hE (ad_cons (ed_var 0 (pv 0)) (ad_cons (ed_var 2 (pv 2)) ad_nil))) (ad_cons (ed_o (B := ⟨⟨W, T⟩, F, H⟩) (k := 1) O__law_draw bp__law_draw (hr.mono (by decide)) hx hE (ad_cons (ed_var 0 (pv 0)) (ad_cons (ed_var 2 (pv 2)) ad_nil))) ad_nil))))
      (sds_cons (sd_set (i := 4) nd rfl (Or.inl rfl) (ed_tup (ad_cons (ed_bin o_add (ed_ix (ed_var 4 (pv 4)).toB ed_int.toB).toB (ed_bin o_mul (ed_var 2 (pv 2)).toB (ed_o (B := ⟨⟨W, T⟩, F, H⟩) (k := 2) O__law_number bp__law_number (hr.mono (by decide)) hx hE (ad_cons (ed_var 0 (pv 0)) ad_nil)).toB).toB) (ad_cons (ed_bin o_add (ed_ix (ed_var 4 (pv 4)).toB ed_int.toB).toB (ed_bin o_mul (ed_var 2 (pv 2)).toB (ed_o (B := ⟨⟨W, T⟩, F, H⟩) (k := 2) O__law_number bp__law_number (hr.mono (by decide)) hx hE (ad_cons (ed_var 0 (pv 0)) ad_nil)).toB).toB) ad_nil))))
      (sds_cons (sd_set (i := 5) nd rfl (Or.inl rfl) (ed_tup (ad_cons (ed_bin o_add (ed_ix (ed_var 5 (pv 5)).toB ed_int.toB).toB (ed_bin o_mul (ed_var 2 (pv 2)).toB (ed_o (B := ⟨⟨W, T⟩, F, H⟩) (k := 2) O__law_number bp__law_number (hr.mono (by decide)) hx hE (ad_cons (ed_var 0 (pv 0)) ad_nil)).toB).toB) (ad_cons (ed_bin o_add (ed_ix (ed_var 5 (pv 5)).toB ed_int.toB).toB (ed_bin o_mul (ed_var 2 (pv 2)).toB (ed_o (B := ⟨⟨W, T⟩, F, H⟩) (k := 2) O__law_number bp__law_number (hr.mono (by decide)) hx hE (ad_cons (ed_var 0 (pv 0)) ad_nil)).toB).toB) ad_nil))))
      (sds_cons (sd_set (i := 6) nd rfl (Or.inl rfl) (ed_o (B := ⟨⟨W, T⟩, F, H⟩) (k := 1) O__law_keys bp__law_keys (hr.mono (by decide)) hx hE (ad_cons (ed_var 3 (pv 3)) (ad_cons (ed_var 4 (pv 4)) (ad_cons (ed_var 5 (pv 5)) ad_nil)))))
      (sds_one (sd_ret (ed_tup (ad_cons (ed_var 2 (pv 2)) (ad_cons (ed_var 6 (pv 6)) (ad_cons (ed_o (B := ⟨⟨W, T⟩, F, H⟩) (k := 2) O__law_pick bp__law_pick (hr.mono (by decide)) hx hE (ad_cons (ed_var 0 (pv 0)) (ad_cons (ed_o (B := ⟨⟨W, T⟩, F, H⟩) (k := 2) O__law_sides bp__law_sides (hr.mono (by decide)) hx hE (ad_cons (ed_var 2 (pv 2)) (ad_cons (ed_var 6 (pv 6)) ad_nil))) ad_nil))) ad_nil))))))))))))))
theorem ok__law_worms {f : Addr} {fd : FuncData} (bt : Bt mg) (ct : Ct K mg) (hm : mg "_law_worms" = some (.ref f)) (F : Fun K "_law_worms" "_law_worms" (top 61) f fd) (O__law_sides : OkD P w K mg base T "_law_sides" (top 56) 2 ["_law_d", "_law_keys_here"] sp__law_sides) (O__law_whole : OkD P w K mg base T "_law_whole" (top 55) 1 ["_law_d", "_law_keys_here"] sp__law_whole) (O__law_changed : OkD P w K mg base T "_law_changed" (top 60) 1 ["_law_side", "_law_r"] sp__law_changed) : OkD P w K mg base T "_law_worms" (top 61) 3 ["_law_world_here"] sp__law_worms := by
  refine ⟨f, fd, hm, F, okD (g := g__law_worms) F sc__law_worms len__law_worms (fun cdv A outer s H E W F R hr hE hp hx => ?_) law__law_worms⟩
  have nd := sc__law_worms.nd
  have hu65 := hu65_of hr
  exact (sds_cons (sd_setT (is := [1, 2, 3]) rfl (na_cons (pg_name (i := 1) nd rfl (Or.inl rfl)) (na_cons (pg_name (i := 2) nd rfl (Or.inl rfl)) (na_cons (pg_name (i := 3) nd rfl (Or.inr rfl)) na_nil))) (ed_var 0 (pv 0)))
      (sds_cons (sd_set (i := 4) nd rfl (Or.inr rfl) (ed_o (B := ⟨⟨W, T⟩, F, H⟩) (k := 2) O__law_sides bp__law_sides (hr.mono (by decide)) hx hE (ad_cons (ed_var 1 (pv 1)) (ad_cons (ed_var 2 (pv 2)) ad_nil))))
      (sds_one (sd_ret (fd_lc (own := [("_law_r", 5)]) rfl nd (pid_data (ed_o (B := ⟨⟨W, T⟩, F, H⟩) (k := 1) O__law_whole bp__law_whole (hr.mono (by decide)) hx hE (ad_cons (ed_var 1 (pv 1)) (ad_cons (ed_var 2 (pv 2)) ad_nil)))) (blkOk_by (own := [("_law_r", 5)]) (N := ["_law_world_here", "_law_d", "_law_keys_here", "_law_side", "_law_sides_here", "_law_r"]) (sc := defScope (top 61)) (by decide +kernel)) (ct_name (by decide)) (fun _ _ _ _ _ => pg_name (i := 5) nd rfl (Or.inl rfl)) (fun _ _ _ _ _ => (tds_one (td_cmp (o_in hu65) (ed_o (B := ⟨⟨W, T⟩, F, H⟩) (k := 1) O__law_changed bp__law_changed (hr.mono (by decide)) passL FinE.none (ad_cons (ed_var 3 (pv 3)) (ad_cons (ed_var 5 (pv 5)) ad_nil))).toB (ed_var 4 (pv 4)).toB (by rfl)))) (fun _ _ _ _ _ => (ed_var 5 (pv 5)))).toE))))
theorem ok__law_regular {f : Addr} {fd : FuncData} (bt : Bt mg) (ct : Ct K mg) (hm : mg "_law_regular" = some (.ref f)) (F : Fun K "_law_regular" "_law_regular" (top 62) f fd) (O__law_pick : OkD P w K mg base T "_law_pick" (top 52) 2 ["_law_deck_here", "_law_some"] sp__law_pick) (O__law_draw : OkD P w K mg base T "_law_draw" (top 51) 1 ["_law_deck_here", "_law_many"] spDraw) (O__law_whole : OkD P w K mg base T "_law_whole" (top 55) 1 ["_law_d", "_law_keys_here"] sp__law_whole) (O__law_keys : OkD P w K mg base T "_law_keys" (top 54) 1 ["_law_r", "_law_one", "_law_other"] sp__law_keys) (O__law_number : OkD P w K mg base T "_law_number" (top 53) 2 ["_law_deck_here"] sp__law_number) : OkD P w K mg base T "_law_regular" (top 62) 3 ["_law_deck_here"] sp__law_regular := by
  refine ⟨f, fd, hm, F, okD (g := g__law_regular) F sc__law_regular len__law_regular (fun cdv A outer s H E W F R hr hE hp hx => ?_) law__law_regular⟩
  have nd := sc__law_regular.nd
  have hu65 := hu65_of hr
  exact (sds_cons (sd_par2 (i := 1) (j := 2) rfl nd rfl rfl (by decide) rfl rfl (ad_cons (ed_o (B := ⟨⟨W, T⟩, F, H⟩) (k := 2) O__law_pick bp__law_pick (hr.mono (by decide)) hx hE (ad_cons (ed_var 0 (pv 0)) (ad_cons (ed_tup (ad_cons ed_int (ad_cons ed_int (ad_cons ed_int (ad_cons ed_int (ad_cons ed_int (ad_cons ed_int (ad_cons ed_int (ad_cons ed_int (ad_cons ed_int (ad_cons ed_int (ad_cons ed_int ad_nil)))))))))))) ad_nil))) (ad_cons (ed_o (B := ⟨⟨W, T⟩, F, H⟩) (k := 1) O__law_draw bp__law_draw (hr.mono (by decide)) hx hE (ad_cons (ed_var 0 (pv 0)) (ad_cons ed_int ad_nil))) ad_nil)) (by rfl))
      (sds_cons (sd_par2 (i := 3) (j := 4) rfl nd rfl rfl (by decide) rfl rfl (ad_cons (ed_tup (ad_cons (ed_o (B := ⟨⟨W, T⟩, F, H⟩) (k := 1) O__law_draw bp__law_draw (hr.mono (by decide)) hx hE (ad_cons (ed_var 0 (pv 0)) (ad_cons (ed_var 1 (pv 1)) ad_nil))) (ad_cons (ed_o (B := ⟨⟨W, T⟩, F, H⟩) (k := 1) O__law_draw bp__law_draw (hr.mono (by decide)) hx hE (ad_cons (ed_var 0 (pv 0)) (ad_cons (ed_var 1 (pv 1)) ad_nil))) ad_nil))) (ad_cons (ed_tup (ad_cons (ed_o (B := ⟨⟨W, T⟩, F, H⟩) (k := 1) O__law_draw bp__law_draw (hr.mono (by decide)) hx hE (ad_cons (ed_var 0 (pv 0)) (ad_cons (ed_var 1 (pv 1)) ad_nil))) (ad_cons (ed_o (B := ⟨⟨W, T⟩, F, H⟩) (k := 1) O__law_draw bp__law_draw (hr.mono (by decide)) hx hE (ad_cons (ed_var 0 (pv 0)) (ad_cons (ed_var 1 (pv 1)) ad_nil))) ad_nil))) ad_nil)) (by rfl))
      (sds_cons (sd_if (td_cmp (o_ne hr.units) (ed_o (B := ⟨⟨W, T⟩, F, H⟩) (k := 1) O__law_whole bp__law_whole (hr.mono (by decide)) hx hE (ad_cons (ed_var 1 (pv 1)) (ad_cons (ed_o (B := ⟨⟨W, T⟩, F, H⟩) (k := 1) O__law_keys bp__law_keys (hr.mono (by decide)) hx hE (ad_cons (ed_var 2 (pv 2)) (ad_cons (ed_var 3 (pv 3)) (ad_cons (ed_var 4 (pv 4)) ad_nil)))) ad_nil))).toB (fd_lst ad_nil).toE.toB (nomark _)) (sds_one (sd_setT (is := [3, 4]) rfl (na_cons (pg_name (i := 3) nd rfl (Or.inl rfl)) (na_cons (pg_name (i := 4) nd rfl (Or.inl rfl)) na_nil)) (ed_tup (ad_cons (ed_tup (ad_cons ed_int (ad_cons ed_int ad_nil))) (ad_cons (ed_tup (ad_cons ed_int (ad_cons ed_int ad_nil))) ad_nil))))) sds_nil)
      (sds_cons (sd_set (i := 3) nd rfl (Or.inl rfl) (ed_tup (ad_cons (ed_bin o_add (ed_ix (ed_var 3 (pv 3)).toB ed_int.toB).toB (ed_bin o_mul (ed_var 1 (pv 1)).toB (ed_o (B := ⟨⟨W, T⟩, F, H⟩) (k := 2) O__law_number bp__law_number (hr.mono (by decide)) hx hE (ad_cons (ed_var 0 (pv 0)) ad_nil)).toB).toB) (ad_cons (ed_bin o_add (ed_ix (ed_var 3 (pv 3)).toB ed_int.toB).toB (ed_bin o_mul (ed_var 1 (pv 1)).toB (ed_o (B := ⟨⟨W, T⟩, F, H⟩) (k := 2) O__law_number bp__law_number (hr.mono (by decide)) hx hE (ad_cons (ed_var 0 (pv 0)) ad_nil)).toB).toB) ad_nil))))
      (sds_cons (sd_set (i := 4) nd rfl (Or.inl rfl) (ed_tup (ad_cons (ed_bin o_add (ed_ix (ed_var 4 (pv 4)).toB ed_int.toB).toB (ed_bin o_mul (ed_var 1 (pv 1)).toB (ed_o (B := ⟨⟨W, T⟩, F, H⟩) (k := 2) O__law_number bp__law_number (hr.mono (by decide)) hx hE (ad_cons (ed_var 0 (pv 0)) ad_nil)).toB).toB) (ad_cons (ed_bin o_add (ed_ix (ed_var 4 (pv 4)).toB ed_int.toB).toB (ed_bin o_mul (ed_var 1 (pv 1)).toB (ed_o (B := ⟨⟨W, T⟩, F, H⟩) (k := 2) O__law_number bp__law_number (hr.mono (by decide)) hx hE (ad_cons (ed_var 0 (pv 0)) ad_nil)).toB).toB) ad_nil))))
      (sds_one (sd_ret (ed_tup (ad_cons (ed_var 1 (pv 1)) (ad_cons (ed_o (B := ⟨⟨W, T⟩, F, H⟩) (k := 1) O__law_keys bp__law_keys (hr.mono (by decide)) hx hE (ad_cons (ed_var 2 (pv 2)) (ad_cons (ed_var 3 (pv 3)) (ad_cons (ed_var 4 (pv 4)) ad_nil)))) (ad_cons (ed_tup (ad_cons ed_int (ad_cons ed_int (ad_cons ed_int (ad_cons ed_int (ad_cons ed_int ad_nil)))))) ad_nil)))))))))))
theorem ok_keys_from {f : Addr} {fd : FuncData} (bt : Bt mg) (ct : Ct K mg) (hm : mg "keys_from" = some (.ref f)) (F : Fun K "keys_from" "keys_from" (top 31) f fd) (O_normal : OkD P w K mg base T "normal" (top 12) 1 ["a", "b", "d"] sp_normal) (O_taken : OkD P w K mg base T "taken" (top 15) 3 ["one", "other"] sp_taken) (O_negative : OkD P w K mg base T "negative" (top 13) 1 ["one"] sp_negative) (O_times_g : OkD P w K mg base T "times_g" (top 16) 1 ["one"] sp_times_g) : OkD P w K mg base T "keys_from" (top 31) 4 ["one", "other"] sp_keys_from := by
  refine ⟨f, fd, hm, F, okD (g := g_keys_from) F sc_keys_from len_keys_from (fun cdv A outer s H E W F R hr hE hp hx => ?_) law_keys_from⟩
  have nd := sc_keys_from.nd
  have hu65 := hu65_of hr
  exact (sds_cons (sd_setL (i := 2) nd rfl (Or.inl rfl) (fd_lst (ad_cons (ed_o (B := ⟨⟨W, T⟩, F, H⟩) (k := 1) O_normal bp_normal (hr.mono (by decide)) hx hE (ad_cons (ed_ix (ed_var 0 (pv 0)).toB ed_int.toB) (ad_cons (ed_ix (ed_var 0 (pv 0)).toB ed_int.toB) (ad_cons (ed_ix (ed_var 0 (pv 0)).toB ed_int.toB) ad_nil)))) (ad_cons (ed_o (B := ⟨⟨W, T⟩, F, H⟩) (k := 1) O_normal bp_normal (hr.mono (by decide)) hx hE (ad_cons (ed_ix (ed_var 1 (pv 1)).toB ed_int.toB) (ad_cons (ed_ix (ed_var 1 (pv 1)).toB ed_int.toB) (ad_cons (ed_ix (ed_var 1 (pv 1)).toB ed_int.toB) ad_nil)))) ad_nil))))
      (sds_cons (sd_for hp rfl (pid_rng2 (by rfl) bt.b_range (ad_cons ed_int (ad_cons ed_int ad_nil))) (gd_name (pg_name (i := 3) nd rfl (Or.inl rfl))) (sds_one (sd_appE (pv 2) (ed_o (B := ⟨⟨W, T⟩, F, H⟩) (k := 3) O_taken bp_taken (hr.mono (by decide)) hx hE (ad_cons (ed_o (B := ⟨⟨W, T⟩, F, H⟩) (k := 1) O_negative bp_negative (hr.mono (by decide)) hx hE (ad_cons (ed_o (B := ⟨⟨W, T⟩, F, H⟩) (k := 1) O_times_g bp_times_g (hr.mono (by decide)) hx hE (ad_cons (ed_ix (bd_var 2 (pv 2)) (ed_var 3 (pv 3)).toB) ad_nil)) ad_nil)) (ad_cons (ed_ix (bd_var 2 (pv 2)) (ed_bin o_sub (ed_var 3 (pv 3)).toB ed_int.toB).toB) ad_nil))))))
      (sds_one (sd_ret (ed_callTy c_tuple (by rfl) bt.b_tuple nbTuple (abd_cons (bd_var 2 (pv 2)) abd_nil))))))
theorem ok_is_side {f : Addr} {fd : FuncData} (bt : Bt mg) (ct : Ct K mg) (hm : mg "is_side" = some (.ref f)) (F : Fun K "is_side" "is_side" (top 34) f fd) (O_sides_of : OkD P w K mg base T "sides_of" (top 33) 3 ["keys"] sp_sides_of) (O_is_integer : OkD P w K mg base T "is_integer" (top 10) 1 ["thing"] sp_is_integer) : OkD P w K mg base T "is_side" (top 34) 4 ["keys", "thing"] sp_is_side := by
  refine ⟨f, fd, hm, F, okD (g := g_is_side) F sc_is_side len_is_side (fun cdv A outer s H E W F R hr hE hp hx => ?_) law_is_side⟩
  have nd := sc_is_side.nd
  have hu65 := hu65_of hr
  exact (sds_cons (sd_if (wd_or (td_not (td_val (ed_callB (c_isiX ct.ob) (by rfl) bt.b_isinstance nbIsi (abd_cons (ed_var 1 (pv 1)).toB (abd_cons (ed_ty (by rfl) bt.b_tuple nbTuple).toB abd_nil))).toB)) (wd_or (td_cmp (o_ne hr.units) (ed_callB c_len (by rfl) bt.b_len nbLen (abd_cons (ed_var 1 (pv 1)).toB abd_nil)).toB ed_int.toB (nomark _)) (wd_or1 (td_not (td_val (ed_callB (c_all rfl) (by rfl) bt.b_all nbAll (abd_cons (fd_lc (own := [("part", 2)]) rfl nd (pid_data (ed_var 1 (pv 1))) (blkOk_by (own := [("part", 2)]) (N := ["keys", "thing", "part"]) (sc := defScope (top 34)) (by decide +kernel)) (ct_name (by decide)) (fun _ _ _ _ _ => pg_name (i := 2) nd rfl (Or.inl rfl)) (fun _ _ _ _ _ => tds_nil) (fun _ _ _ _ _ => (ed_o (B := ⟨⟨W, T⟩, F, H⟩) (k := 1) O_is_integer bp_is_integer (hr.mono (by decide)) passL FinE.none (ad_cons (ed_var 2 (pv 2)) ad_nil)))).toE.toB abd_nil)).toB))))).t (sds_one (sd_ret ed_bl)) sds_nil)
      (sds_one (sd_ret (ed_cmp (o_in hu65) (ed_var 1 (pv 1)).toB (ed_o (B := ⟨⟨W, T⟩, F, H⟩) (k := 3) O_sides_of bp_sides_of (hr.mono (by decide)) hx hE (ad_cons (ed_var 0 (pv 0)) ad_nil)).toB (by rfl)))))
theorem ok_worm_directions {f : Addr} {fd : FuncData} (bt : Bt mg) (ct : Ct K mg) (hm : mg "worm_directions" = some (.ref f)) (F : Fun K "worm_directions" "worm_directions" (top 42) f fd) (O_sides_of : OkD P w K mg base T "sides_of" (top 33) 3 ["keys"] sp_sides_of) (O_whole_keys : OkD P w K mg base T "whole_keys" (top 38) 3 ["floor"] sp_whole_keys) (O_changed_side : OkD P w K mg base T "changed_side" (top 40) 1 ["side", "direction"] sp_changed_side) : OkD P w K mg base T "worm_directions" (top 42) 4 ["floor"] sp_worm_directions := by
  refine ⟨f, fd, hm, F, okD (g := g_worm_directions) F sc_worm_directions len_worm_directions (fun cdv A outer s H E W F R hr hE hp hx => ?_) law_worm_directions⟩
  have nd := sc_worm_directions.nd
  have hu65 := hu65_of hr
  exact (sds_cons (sd_set (i := 1) nd rfl (Or.inr rfl) (ed_o (B := ⟨⟨W, T⟩, F, H⟩) (k := 3) O_sides_of bp_sides_of (hr.mono (by decide)) hx hE (ad_cons (ed_fld ct.fld (ed_var 0 (pv 0)).toB) ad_nil)))
      (sds_one (sd_ret (fd_lc (own := [("r", 2)]) rfl nd (pid_data (ed_o (B := ⟨⟨W, T⟩, F, H⟩) (k := 3) O_whole_keys bp_whole_keys (hr.mono (by decide)) hx hE (ad_cons (ed_var 0 (pv 0)) ad_nil))) (blkOk_by (own := [("r", 2)]) (N := ["floor", "every", "r"]) (sc := defScope (top 42)) (by decide +kernel)) (ct_name (by decide)) (fun _ _ _ _ _ => pg_name (i := 2) nd rfl (Or.inl rfl)) (fun _ _ _ _ _ => (tds_one (td_cmp (o_in hu65) (ed_o (B := ⟨⟨W, T⟩, F, H⟩) (k := 1) O_changed_side bp_changed_side (hr.mono (by decide)) passL FinE.none (ad_cons (ed_fld ct.fld (ed_var 0 (pv 0)).toB) (ad_cons (ed_var 2 (pv 2)) ad_nil))).toB (ed_var 1 (pv 1)).toB (by rfl)))) (fun _ _ _ _ _ => (ed_var 2 (pv 2)))).toE)))
theorem ok_Floor {f C : Addr} {fd : FuncData} {dvs : List V} (bt : Bt mg) (ct : Ct K mg) (hm : mg "Floor" = some (.ref C)) (M : Mk K C f) (F : FunD K "__init__" "Floor.__init__" (defArgs (methS 35 0)) (defBody (methS 35 0)) (defScope (methS 35 0)) dvs [] f fd) (hd : dvs ≠ []) (hD : ∀ F, Reps ⟨K, mg⟩ F dvs [.tup [.int 0, .int 0, .int 0, .int 0, .int 0]]) (O_keys_from : OkD P w K mg base T "keys_from" (top 31) 4 ["one", "other"] sp_keys_from) (O_is_side : OkD P w K mg base T "is_side" (top 34) 4 ["keys", "thing"] sp_is_side) (O_is_number : OkD P w K mg base T "is_number" (top 11) 2 ["thing"] sp_is_number) : OkM P w K mg base T "Floor" "Floor.__init__" (methS 35 0) 5 ["one", "other", "side"] [.tup [.int 0, .int 0, .int 0, .int 0, .int 0]] sp_Floor := by
  obtain ⟨C_BadNumber, fI_BadNumber, T_BadNumber, N_BadNumber⟩ := ct.er_BadNumber
  obtain ⟨C_BadSide, fI_BadSide, T_BadSide, N_BadSide⟩ := ct.er_BadSide
  refine ⟨C, f, fd, dvs, hm, M, F, hd, hD, okInit (g := g_Floor) hm F sc_Floor (by decide) len_Floor (fun cdv A outer s H E W F H0 R hr hE hp hx => ?_) law_Floor⟩
  have nd := sc_Floor.nd
  have hu65 := hu65_of hr
  exact (sds_cons (sd_for hp rfl (pid_data (ed_tup (ad_cons (ed_var 1 (pv 1)) (ad_cons (ed_var 2 (pv 2)) ad_nil)))) (gd_name (pg_name (i := 4) nd rfl (Or.inl rfl))) (sds_one (sd_if (td_not (td_val (ed_o (B := ⟨⟨W, T⟩, F, H0⟩) (k := 2) O_is_number bp_is_number (hr.mono (by decide)) hx hE (ad_cons (ed_var 4 (pv 4)) ad_nil)).toB)) (sds_one (sd_raise rfl T_BadNumber N_BadNumber hr (takes_of rfl rfl rfl rfl) hE (ed_var 4 (pv 4)))) sds_nil)))
      (sds_cons (sd_set (i := 5) nd rfl (Or.inl rfl) (ed_o (B := ⟨⟨W, T⟩, F, H0⟩) (k := 4) O_keys_from bp_keys_from (hr.mono (by decide)) hx hE (ad_cons (ed_var 1 (pv 1)) (ad_cons (ed_var 2 (pv 2)) ad_nil))))
      (sds_cons (sd_if (td_not (td_val (ed_o (B := ⟨⟨W, T⟩, F, H0⟩) (k := 4) O_is_side bp_is_side (hr.mono (by decide)) hx hE (ad_cons (ed_var 5 (pv 5)) (ad_cons (ed_var 3 (pv 3)) ad_nil))).toB)) (sds_one (sd_raise rfl T_BadSide N_BadSide hr (takes_of rfl rfl rfl rfl) hE (ed_var 3 (pv 3)))) sds_nil)
      (sds_cons (sd_setF ct.fld (pv 0) (ed_var 5 (pv 5)))
      (sds_one (sd_setF ct.fld (pv 0) (ed_var 3 (pv 3))))))))
theorem ok_sides_beside {f : Addr} {fd : FuncData} (bt : Bt mg) (ct : Ct K mg) (hm : mg "sides_beside" = some (.ref f)) (F : Fun K "sides_beside" "sides_beside" (top 43) f fd) (O_changed_side : OkD P w K mg base T "changed_side" (top 40) 1 ["side", "direction"] sp_changed_side) (O_worm_directions : OkD P w K mg base T "worm_directions" (top 42) 4 ["floor"] sp_worm_directions) : OkD P w K mg base T "sides_beside" (top 43) 5 ["floor"] sp_sides_beside := by
  refine ⟨f, fd, hm, F, okD (g := g_sides_beside) F sc_sides_beside len_sides_beside (fun cdv A outer s H E W F R hr hE hp hx => ?_) law_sides_beside⟩
  have nd := sc_sides_beside.nd
  have hu65 := hu65_of hr
  exact (sds_one (sd_ret (ed_callTy c_tuple (by rfl) bt.b_tuple nbTuple (abd_cons (fd_lc (own := [("r", 1)]) rfl nd (pid_data (ed_o (B := ⟨⟨W, T⟩, F, H⟩) (k := 4) O_worm_directions bp_worm_directions (hr.mono (by decide)) hx hE (ad_cons (ed_var 0 (pv 0)) ad_nil))) (blkOk_by (own := [("r", 1)]) (N := ["floor", "r"]) (sc := defScope (top 43)) (by decide +kernel)) (ct_name (by decide)) (fun _ _ _ _ _ => pg_name (i := 1) nd rfl (Or.inl rfl)) (fun _ _ _ _ _ => tds_nil) (fun _ _ _ _ _ => (ed_tup (ad_cons (ed_var 1 (pv 1)) (ad_cons (ed_o (B := ⟨⟨W, T⟩, F, H⟩) (k := 1) O_changed_side bp_changed_side (hr.mono (by decide)) passL FinE.none (ad_cons (ed_fld ct.fld (ed_var 0 (pv 0)).toB) (ad_cons (ed_var 1 (pv 1)) ad_nil))) ad_nil))))).toE.toB abd_nil))))
theorem ok_with_keys {f : Addr} {fd : FuncData} (bt : Bt mg) (ct : Ct K mg) (hm : mg "with_keys" = some (.ref f)) (F : Fun K "with_keys" "with_keys" (top 41) f fd) (O_Floor : OkM P w K mg base T "Floor" "Floor.__init__" (methS 35 0) 5 ["one", "other", "side"] [.tup [.int 0, .int 0, .int 0, .int 0, .int 0]] sp_Floor) : OkD P w K mg base T "with_keys" (top 41) 7 ["floor", "side"] sp_with_keys := by
  refine ⟨f, fd, hm, F, okD (g := g_with_keys) F sc_with_keys len_with_keys (fun cdv A outer s H E W F R hr hE hp hx => ?_) law_with_keys⟩
  have nd := sc_with_keys.nd
  have hu65 := hu65_of hr
  exact (sds_one (sd_ret (ed_make (B := ⟨⟨W, T⟩, F, H⟩) (k := 5) O_Floor rfl bm_Floor_0 (hr.mono (by decide)) hx hE (ad_cons (ed_ix (ed_fld ct.fld (ed_var 0 (pv 0)).toB).toB ed_int.toB) (ad_cons (ed_ix (ed_fld ct.fld (ed_var 0 (pv 0)).toB).toB ed_int.toB) (ad_cons (ed_var 1 (pv 1)) ad_nil))) kd_nil)))
theorem ok__law_floor {f : Addr} {fd : FuncData} (bt : Bt mg) (ct : Ct K mg) (hm : mg "_law_floor" = some (.ref f)) (F : Fun K "_law_floor" "_law_floor" (top 58) f fd) (O__law_pick : OkD P w K mg base T "_law_pick" (top 52) 2 ["_law_deck_here", "_law_some"] sp__law_pick) (O_Floor : OkM P w K mg base T "Floor" "Floor.__init__" (methS 35 0) 5 ["one", "other", "side"] [.tup [.int 0, .int 0, .int 0, .int 0, .int 0]] sp_Floor) : OkD P w K mg base T "_law_floor" (top 58) 7 ["_law_deck_here", "_law_world_here"] sp__law_floor := by
  refine ⟨f, fd, hm, F, okD (g := g__law_floor) F sc__law_floor len__law_floor (fun cdv A outer s H E W F R hr hE hp hx => ?_) law__law_floor⟩
  have nd := sc__law_floor.nd
  have hu65 := hu65_of hr
  exact (sds_cons (sd_setT (is := [2, 3, 4]) rfl (na_cons (pg_name (i := 2) nd rfl (Or.inl rfl)) (na_cons (pg_name (i := 3) nd rfl (Or.inl rfl)) (na_cons (pg_name (i := 4) nd rfl (Or.inl rfl)) na_nil))) (ed_var 1 (pv 1)))
      (sds_cons (sd_set (i := 5) nd rfl (Or.inl rfl) (ed_o (B := ⟨⟨W, T⟩, F, H⟩) (k := 2) O__law_pick bp__law_pick (hr.mono (by decide)) hx hE (ad_cons (ed_var 0 (pv 0)) (ad_cons (ed_tup (ad_cons ed_int (ad_cons ed_int (ad_cons ed_int (ad_cons ed_int ad_nil))))) ad_nil))))
      (sds_cons (sd_par2 (i := 6) (j := 7) rfl nd rfl rfl (by decide) rfl rfl (ad_cons (ed_tup (ad_cons (ed_bin o_mul (ed_ix (ed_ix (ed_var 3 (pv 3)).toB ed_int.toB).toB ed_int.toB).toB (ed_var 5 (pv 5)).toB) (ad_cons (ed_bin o_mul (ed_ix (ed_ix (ed_var 3 (pv 3)).toB ed_int.toB).toB ed_int.toB).toB (ed_var 5 (pv 5)).toB) (ad_cons (ed_bin o_mul (ed_var 2 (pv 2)).toB (ed_var 5 (pv 5)).toB) ad_nil)))) (ad_cons (ed_tup (ad_cons (ed_bin o_mul (ed_ix (ed_ix (ed_var 3 (pv 3)).toB ed_int.toB).toB ed_int.toB).toB (ed_var 5 (pv 5)).toB) (ad_cons (ed_bin o_mul (ed_ix (ed_ix (ed_var 3 (pv 3)).toB ed_int.toB).toB ed_int.toB).toB (ed_var 5 (pv 5)).toB) (ad_cons (ed_bin o_mul (ed_var 2 (pv 2)).toB (ed_var 5 (pv 5)).toB) ad_nil)))) ad_nil)) (by rfl))
      (sds_cons (sd_if (wd_and (td_cmp (o_eq hr.units) (ed_var 4 (pv 4)).toB (ed_tup (ad_cons ed_int (ad_cons ed_int (ad_cons ed_int (ad_cons ed_int (ad_cons ed_int ad_nil)))))).toB (nomark _)) (wd_and1 (td_cmp (o_eq hr.units) (ed_var 5 (pv 5)).toB ed_int.toB (nomark _)))).t (sds_one (sd_ret (ed_make (B := ⟨⟨W, T⟩, F, H⟩) (k := 5) O_Floor rfl bm_Floor_1 (hr.mono (by decide)) hx hE (ad_cons (ed_var 6 (pv 6)) (ad_cons (ed_var 7 (pv 7)) ad_nil)) kd_nil))) sds_nil)
      (sds_one (sd_ret (ed_make (B := ⟨⟨W, T⟩, F, H⟩) (k := 5) O_Floor rfl bm_Floor_2 (hr.mono (by decide)) hx hE (ad_cons (ed_var 6 (pv 6)) ad_nil) (kd_cons (ed_var 4 (pv 4)) (kd_cons (ed_var 7 (pv 7)) kd_nil)))))))))
theorem ok_turned {f : Addr} {fd : FuncData} (bt : Bt mg) (ct : Ct K mg) (hm : mg "turned" = some (.ref f)) (F : Fun K "turned" "turned" (top 44) f fd) (O_with_keys : OkD P w K mg base T "with_keys" (top 41) 7 ["floor", "side"] sp_with_keys) (O_is_direction : OkD P w K mg base T "is_direction" (top 19) 2 ["thing"] sp_is_direction) (O_worm_directions : OkD P w K mg base T "worm_directions" (top 42) 4 ["floor"] sp_worm_directions) (O_changed_side : OkD P w K mg base T "changed_side" (top 40) 1 ["side", "direction"] sp_changed_side) : OkD P w K mg base T "turned" (top 44) 8 ["floor", "direction"] sp_turned := by
  obtain ⟨C_BadDirection, fI_BadDirection, T_BadDirection, N_BadDirection⟩ := ct.er_BadDirection
  obtain ⟨C_NoWorm, fI_NoWorm, T_NoWorm, N_NoWorm⟩ := ct.er_NoWorm
  refine ⟨f, fd, hm, F, okD (g := g_turned) F sc_turned len_turned (fun cdv A outer s H E W F R hr hE hp hx => ?_) law_turned⟩
  have nd := sc_turned.nd
  have hu65 := hu65_of hr
  exact (sds_cons (sd_if (td_not (td_val (ed_o (B := ⟨⟨W, T⟩, F, H⟩) (k := 2) O_is_direction bp_is_direction (hr.mono (by decide)) hx hE (ad_cons (ed_var 1 (pv 1)) ad_nil)).toB)) (sds_one (sd_raise rfl T_BadDirection N_BadDirection hr (takes_of rfl rfl rfl rfl) hE (ed_var 1 (pv 1)))) sds_nil)
      (sds_cons (sd_if (td_cmp (o_notIn hu65) (ed_var 1 (pv 1)).toB (ed_o (B := ⟨⟨W, T⟩, F, H⟩) (k := 4) O_worm_directions bp_worm_directions (hr.mono (by decide)) hx hE (ad_cons (ed_var 0 (pv 0)) ad_nil)).toB (by rfl)) (sds_one (sd_raise rfl T_NoWorm N_NoWorm hr (takes_of rfl rfl rfl rfl) hE (ed_var 1 (pv 1)))) sds_nil)
      (sds_one (sd_ret (ed_o (B := ⟨⟨W, T⟩, F, H⟩) (k := 7) O_with_keys bp_with_keys (hr.mono (by decide)) hx hE (ad_cons (ed_var 0 (pv 0)) (ad_cons (ed_o (B := ⟨⟨W, T⟩, F, H⟩) (k := 1) O_changed_side bp_changed_side (hr.mono (by decide)) hx hE (ad_cons (ed_fld ct.fld (ed_var 0 (pv 0)).toB) (ad_cons (ed_var 1 (pv 1)) ad_nil))) ad_nil)))))))
theorem ok_with_side {f : Addr} {fd : FuncData} (bt : Bt mg) (ct : Ct K mg) (hm : mg "with_side" = some (.ref f)) (F : Fun K "with_side" "with_side" (top 45) f fd) (O_with_keys : OkD P w K mg base T "with_keys" (top 41) 7 ["floor", "side"] sp_with_keys) (O_is_side : OkD P w K mg base T "is_side" (top 34) 4 ["keys", "thing"] sp_is_side) : OkD P w K mg base T "with_side" (top 45) 8 ["floor", "side"] sp_with_side := by
  obtain ⟨C_NoSuchSide, fI_NoSuchSide, T_NoSuchSide, N_NoSuchSide⟩ := ct.er_NoSuchSide
  refine ⟨f, fd, hm, F, okD (g := g_with_side) F sc_with_side len_with_side (fun cdv A outer s H E W F R hr hE hp hx => ?_) law_with_side⟩
  have nd := sc_with_side.nd
  have hu65 := hu65_of hr
  exact (sds_cons (sd_if (td_not (td_val (ed_o (B := ⟨⟨W, T⟩, F, H⟩) (k := 4) O_is_side bp_is_side (hr.mono (by decide)) hx hE (ad_cons (ed_fld ct.fld (ed_var 0 (pv 0)).toB) (ad_cons (ed_var 1 (pv 1)) ad_nil))).toB)) (sds_one (sd_raise rfl T_NoSuchSide N_NoSuchSide hr (takes_of rfl rfl rfl rfl) hE (ed_var 1 (pv 1)))) sds_nil)
      (sds_one (sd_ret (ed_o (B := ⟨⟨W, T⟩, F, H⟩) (k := 7) O_with_keys bp_with_keys (hr.mono (by decide)) hx hE (ad_cons (ed_var 0 (pv 0)) (ad_cons (ed_var 1 (pv 1)) ad_nil))))))
theorem ok_turns_between {f : Addr} {fd : FuncData} (bt : Bt mg) (ct : Ct K mg) (hm : mg "turns_between" = some (.ref f)) (F : Fun K "turns_between" "turns_between" (top 47) f fd) (O_turned : OkD P w K mg base T "turned" (top 44) 8 ["floor", "direction"] sp_turned) (O_worm_directions : OkD P w K mg base T "worm_directions" (top 42) 4 ["floor"] sp_worm_directions) (O_unlike_signs : OkD P w K mg base T "unlike_signs" (top 46) 1 ["one", "other"] sp_unlike_signs) : OkD P w K mg base T "turns_between" (top 47) 9 ["one", "other"] sp_turns_between := by
  refine ⟨f, fd, hm, F, okD (g := g_turns_between) F sc_turns_between len_turns_between (fun cdv A outer s H E W F R hr hE hp hx => ?_) law_turns_between⟩
  have nd := sc_turns_between.nd
  have hu65 := hu65_of hr
  exact (sds_cons (sd_if (td_cmp (o_ne hr.units) (ed_fld ct.fld (ed_var 0 (pv 0)).toB).toB (ed_fld ct.fld (ed_var 1 (pv 1)).toB).toB (nomark _)) (sds_one (sd_ret ed_non)) sds_nil)
      (sds_cons (sd_parLg (i := 2) (j := 3) (by decide) rfl (na_cons (pg_name (i := 2) nd rfl (Or.inl rfl)) (na_cons (pg_name (i := 3) nd rfl (Or.inr rfl)) na_nil)) (fd_lst ad_nil) (ed_var 0 (pv 0)))
      (sds_cons (sd_while hp (td_cmp (o_ne hr.units) (ed_fld ct.fld (ed_var 3 (pv 3)).toB).toB (ed_fld ct.fld (ed_var 1 (pv 1)).toB).toB (nomark _)) (sds_cons (sd_set (i := 4) nd rfl (Or.inl rfl) (ed_ix (fd_lc (own := [("r", 5)]) rfl nd (pid_data (ed_o (B := ⟨⟨W, T⟩, F, H⟩) (k := 4) O_worm_directions bp_worm_directions (hr.mono (by decide)) hx hE (ad_cons (ed_var 3 (pv 3)) ad_nil))) (blkOk_by (own := [("r", 5)]) (N := ["one", "other", "found", "floor", "direction", "r"]) (sc := defScope (top 47)) (by decide +kernel)) (ct_name (by decide)) (fun _ _ _ _ _ => pg_name (i := 5) nd rfl (Or.inl rfl)) (fun _ _ _ _ _ => (tds_one (td_cmp (o_in hu65) (ed_var 5 (pv 5)).toB (ed_o (B := ⟨⟨W, T⟩, F, H⟩) (k := 1) O_unlike_signs bp_unlike_signs (hr.mono (by decide)) passL FinE.none (ad_cons (ed_var 3 (pv 3)) (ad_cons (ed_var 1 (pv 1)) ad_nil))).toB (by rfl)))) (fun _ _ _ _ _ => (ed_var 5 (pv 5)))).toE.toB ed_int.toB))
      (sds_cons (sd_appE (pv 2) (ed_var 4 (pv 4)))
      (sds_one (sd_set (i := 3) nd rfl (Or.inr rfl) (ed_o (B := ⟨⟨W, T⟩, F, H⟩) (k := 8) O_turned bp_turned (hr.mono (by decide)) hx hE (ad_cons (ed_var 3 (pv 3)) (ad_cons (ed_var 4 (pv 4)) ad_nil))))))))
      (sds_one (sd_ret (ed_callTy c_tuple (by rfl) bt.b_tuple nbTuple (abd_cons (bd_var 2 (pv 2)) abd_nil)))))))
theorem ok_turns_hold {f : Addr} {fd : FuncData} (bt : Bt mg) (ct : Ct K mg) (hm : mg "turns_hold" = some (.ref f)) (F : Fun K "turns_hold" "turns_hold" (top 48) f fd) (O_turned : OkD P w K mg base T "turned" (top 44) 8 ["floor", "direction"] sp_turned) (O_unlike_signs : OkD P w K mg base T "unlike_signs" (top 46) 1 ["one", "other"] sp_unlike_signs) (O_worm_directions : OkD P w K mg base T "worm_directions" (top 42) 4 ["floor"] sp_worm_directions) (O_is_direction : OkD P w K mg base T "is_direction" (top 19) 2 ["thing"] sp_is_direction) : OkD P w K mg base T "turns_hold" (top 48) 9 ["one", "other", "thing"] sp_turns_hold := by
  refine ⟨f, fd, hm, F, okD (g := g_turns_hold) F sc_turns_hold len_turns_hold (fun cdv A outer s H E W F R hr hE hp hx => ?_) law_turns_hold⟩
  have nd := sc_turns_hold.nd
  have hu65 := hu65_of hr
  exact (sds_cons (sd_if (wd_or (td_cmp (o_ne hr.units) (ed_fld ct.fld (ed_var 0 (pv 0)).toB).toB (ed_fld ct.fld (ed_var 1 (pv 1)).toB).toB (nomark _)) (wd_or (td_not (td_val (ed_callB (c_isiX ct.ob) (by rfl) bt.b_isinstance nbIsi (abd_cons (ed_var 2 (pv 2)).toB (abd_cons (ed_ty (by rfl) bt.b_tuple nbTuple).toB abd_nil))).toB)) (wd_or1 (td_not (td_val (ed_callB (c_all rfl) (by rfl) bt.b_all nbAll (abd_cons (fd_lc (own := [("r", 5)]) rfl nd (pid_data (ed_var 2 (pv 2))) (blkOk_by (own := [("r", 5)]) (N := ["one", "other", "thing", "floor", "direction", "r"]) (sc := defScope (top 48)) (by decide +kernel)) (ct_name (by decide)) (fun _ _ _ _ _ => pg_name (i := 5) nd rfl (Or.inl rfl)) (fun _ _ _ _ _ => tds_nil) (fun _ _ _ _ _ => (ed_o (B := ⟨⟨W, T⟩, F, H⟩) (k := 2) O_is_direction bp_is_direction (hr.mono (by decide)) passL FinE.none (ad_cons (ed_var 5 (pv 5)) ad_nil)))).toE.toB abd_nil)).toB))))).t (sds_one (sd_ret ed_bl)) sds_nil)
      (sds_cons (sd_if (td_cmp (o_ne hr.units) (ed_callB c_len (by rfl) bt.b_len nbLen (abd_cons (ed_var 2 (pv 2)).toB abd_nil)).toB (ed_callB c_len (by rfl) bt.b_len nbLen (abd_cons (ed_o (B := ⟨⟨W, T⟩, F, H⟩) (k := 1) O_unlike_signs bp_unlike_signs (hr.mono (by decide)) hx hE (ad_cons (ed_var 0 (pv 0)) (ad_cons (ed_var 1 (pv 1)) ad_nil))).toB abd_nil)).toB (nomark _)) (sds_one (sd_ret ed_bl)) sds_nil)
      (sds_cons (sd_set (i := 3) nd rfl (Or.inl rfl) (ed_var 0 (pv 0)))
      (sds_cons (sd_for hp rfl (pid_data (ed_var 2 (pv 2))) (gd_name (pg_name (i := 4) nd rfl (Or.inl rfl))) (sds_cons (sd_if (td_cmp (o_notIn hu65) (ed_var 4 (pv 4)).toB (ed_o (B := ⟨⟨W, T⟩, F, H⟩) (k := 4) O_worm_directions bp_worm_directions (hr.mono (by decide)) hx hE (ad_cons (ed_var 3 (pv 3)) ad_nil)).toB (by rfl)) (sds_one (sd_ret ed_bl)) sds_nil)
      (sds_one (sd_set (i := 3) nd rfl (Or.inl rfl) (ed_o (B := ⟨⟨W, T⟩, F, H⟩) (k := 8) O_turned bp_turned (hr.mono (by decide)) hx hE (ad_cons (ed_var 3 (pv 3)) (ad_cons (ed_var 4 (pv 4)) ad_nil)))))))
      (sds_one (sd_ret (ed_cmp (o_eq hr.units) (ed_fld ct.fld (ed_var 3 (pv 3)).toB).toB (ed_fld ct.fld (ed_var 1 (pv 1)).toB).toB (nomark _))))))))
theorem ok__law_turned {f : Addr} {fd : FuncData} (bt : Bt mg) (ct : Ct K mg) (hm : mg "_law_turned" = some (.ref f)) (F : Fun K "_law_turned" "_law_turned" (top 64) f fd) (O_turned : OkD P w K mg base T "turned" (top 44) 8 ["floor", "direction"] sp_turned) : OkD P w K mg base T "_law_turned" (top 64) 9 ["_law_floor_here", "_law_r"] sp__law_turned := by
  obtain ⟨D_BadDirection, g_BadDirection⟩ := ct.g_BadDirection
  obtain ⟨D_NoWorm, g_NoWorm⟩ := ct.g_NoWorm
  refine ⟨f, fd, hm, F, okD (g := g__law_turned) F sc__law_turned len__law_turned (fun cdv A outer s H E W F R hr hE hp hx => ?_) law__law_turned⟩
  have nd := sc__law_turned.nd
  have hu65 := hu65_of hr
  exact (sds_one (sd_try (M := clsM) rfl rfl nd (takes_of rfl rfl rfl rfl) hE ct.tab (fun pn xe E R hx hE hp => (sds_one (sd_ret (ed_o (B := ⟨⟨W, T⟩, F, H⟩) (k := 8) O_turned bp_turned (hr.mono (by decide)) hx hE (ad_cons (ed_var 0 (pv 0)) (ad_cons (ed_var 1 (pv 1)) ad_nil))))))
      (.named rfl rfl g_BadDirection (i := 2) rfl rfl (fun a oe cls d pn F0 H0 er zc fv at_ => (sds_one (sd_ret (ed_tup (ad_cons ed_str (ad_cons (ed_erF (fld := "thing") at_ zc fv ct.get_thing (pv 2)) ad_nil)))))) (.named rfl rfl g_NoWorm (i := 2) rfl rfl (fun a oe cls d pn F0 H0 er zc fv at_ => (sds_one (sd_ret (ed_tup (ad_cons ed_str (ad_cons (ed_erF (fld := "direction") at_ zc fv ct.get_direction (pv 2)) ad_nil)))))) .nil))))
theorem ok__law_sided {f : Addr} {fd : FuncData} (bt : Bt mg) (ct : Ct K mg) (hm : mg "_law_sided" = some (.ref f)) (F : Fun K "_law_sided" "_law_sided" (top 65) f fd) (O_with_side : OkD P w K mg base T "with_side" (top 45) 8 ["floor", "side"] sp_with_side) : OkD P w K mg base T "_law_sided" (top 65) 9 ["_law_floor_here", "_law_side"] sp__law_sided := by
  obtain ⟨D_NoSuchSide, g_NoSuchSide⟩ := ct.g_NoSuchSide
  refine ⟨f, fd, hm, F, okD (g := g__law_sided) F sc__law_sided len__law_sided (fun cdv A outer s H E W F R hr hE hp hx => ?_) law__law_sided⟩
  have nd := sc__law_sided.nd
  have hu65 := hu65_of hr
  exact (sds_one (sd_try (M := clsM) rfl rfl nd (takes_of rfl rfl rfl rfl) hE ct.tab (fun pn xe E R hx hE hp => (sds_one (sd_ret (ed_ok0 (B := ⟨⟨W, T⟩, F, H⟩) (k := 8) O_with_side (by decide) kb_with_side_0 (hr.mono (by decide)) hx hE (kd_cons (ed_var 1 (pv 1)) (kd_cons (ed_var 0 (pv 0)) kd_nil))))))
      (.named rfl rfl g_NoSuchSide (i := 2) rfl rfl (fun a oe cls d pn F0 H0 er zc fv at_ => (sds_one (sd_ret (ed_tup (ad_cons ed_str (ad_cons (ed_erF (fld := "thing") at_ zc fv ct.get_thing (pv 2)) ad_nil)))))) .nil)))
theorem ok__law_is_ring {f : Addr} {fd : FuncData} (bt : Bt mg) (ct : Ct K mg) (hm : mg "_law_is_ring" = some (.ref f)) (F : Fun K "_law_is_ring" "_law_is_ring" (top 68) f fd) (O__law_same : OkG P w K mg base T "_law_same" (top 59) 1 ["_law_told", "_law_due"] sp__law_same) (O_turned : OkD P w K mg base T "turned" (top 44) 8 ["floor", "direction"] sp_turned) (O__law_pick : OkD P w K mg base T "_law_pick" (top 52) 2 ["_law_deck_here", "_law_some"] sp__law_pick) (O_sides_beside : OkD P w K mg base T "sides_beside" (top 43) 5 ["floor"] sp_sides_beside) (O_Floor__eq : EqOf P w K mg base T 1 knownO "Floor" sp_Floor__eq) : OkG P w K mg base T "_law_is_ring" (top 68) 9 ["_law_deck_here", "_law_floor_here"] sp__law_is_ring := by
  refine ⟨f, fd, hm, F, okG (g := g__law_is_ring) F sc__law_is_ring len__law_is_ring (fun cdv A outer s H E W F R hG hr hE hp hx => ?_) law__law_is_ring⟩
  have nd := sc__law_is_ring.nd
  have hu65 := hu65_of hr
  exact (sds_cons (sd_setT (is := [2, 3, 4]) rfl (na_cons (pg_name (i := 2) nd rfl (Or.inl rfl)) (na_cons (pg_name (i := 3) nd rfl (Or.inr rfl)) (na_cons (pg_name (i := 4) nd rfl (Or.inl rfl)) na_nil))) (ed_tup (ad_cons (ed_var 1 (pv 1)) (ad_cons ed_int (ad_cons (ed_fld ct.fld (ed_var 1 (pv 1)).toB) ad_nil)))))
      (sds_cons (sd_for hp rfl (pid_rng1 (by rfl) bt.b_range (ad_cons ed_int ad_nil)) (gd_name (pg_name (i := 5) nd rfl (Or.inl rfl))) (sds_cons (sd_setLc (i := 6) (own := [("_law_r", 7), ("_law_side", 8)]) rfl nd rfl rfl (sw_true rfl rfl rfl (by decide +kernel)) (pid_data (ed_o (B := ⟨⟨W, T⟩, F, H⟩) (k := 5) O_sides_beside bp_sides_beside (hr.mono (by decide)) hx hE (ad_cons (ed_var 2 (pv 2)) ad_nil))) (blkOk_by (own := [("_law_r", 7), ("_law_side", 8)]) (N := ["_law_deck_here", "_law_floor_here", "_law_here", "_law_last", "_law_start", "_law_turn", "_law_ways", "_law_r", "_law_side", "_law_it"]) (sc := defScope (top 68)) (by decide +kernel)) (ct_tup (is := [7, 8]) (by decide)) (fun _ _ _ _ _ => pg_names (is := [7, 8]) rfl (na_cons (pg_name (i := 7) nd rfl (Or.inl rfl)) (na_cons (pg_name (i := 8) nd rfl (Or.inl rfl)) na_nil))) (fun _ _ _ _ _ => (tds_one (td_cmp (o_ne hr.units) (ed_var 7 (pv 7)).toB (ed_var 3 (pv 3)).toB (nomark _)))) (fun _ _ _ _ _ => (ed_var 7 (pv 7))))
      (sds_cons (sd_set (i := 3) nd rfl (Or.inr rfl) (ed_if (td_cmpE (o_eqX (sps := eqsO) ct.ob (fun n sp h => eqs_of O_Floor__eq h) (hr.mono (by decide)) hr.units passL) (ed_var 5 (pv 5)) ed_int (nomark _)) (ed_o (B := ⟨⟨W, T⟩, F, H⟩) (k := 2) O__law_pick bp__law_pick (hr.mono (by decide)) hx hE (ad_cons (ed_var 0 (pv 0)) (ad_cons (ed_var 6 (pv 6)) ad_nil))) (ed_ix (ed_var 6 (pv 6)).toB ed_int.toB)))
      (sds_cons (sd_set (i := 2) nd rfl (Or.inl rfl) (ed_o (B := ⟨⟨W, T⟩, F, H⟩) (k := 8) O_turned bp_turned (hr.mono (by decide)) hx hE (ad_cons (ed_var 2 (pv 2)) (ad_cons (ed_var 3 (pv 3)) ad_nil))))
      (sds_cons (sd_if (wd_and (td_cmpE (o_eqX (sps := eqsO) ct.ob (fun n sp h => eqs_of O_Floor__eq h) (hr.mono (by decide)) hr.units passL) (ed_var 5 (pv 5)) ed_int (nomark _)) (wd_and1 (td_not (td_val (ed_g (B := ⟨⟨W, T⟩, F, H⟩) (k := 1) O__law_same bp__law_same hG (hr.mono (by decide)) hx hE (ad_cons (ed_fld ct.fld (ed_var 2 (pv 2)).toB) (ad_cons (ed_callTy c_tuple (by rfl) bt.b_tuple nbTuple (abd_cons (fd_lc (own := [("_law_it", 9)]) rfl nd (pid_data (ed_var 4 (pv 4))) (blkOk_by (own := [("_law_it", 9)]) (N := ["_law_deck_here", "_law_floor_here", "_law_here", "_law_last", "_law_start", "_law_turn", "_law_ways", "_law_r", "_law_side", "_law_it"]) (sc := defScope (top 68)) (by decide +kernel)) (ct_name (by decide)) (fun _ _ _ _ _ => pg_name (i := 9) nd rfl (Or.inl rfl)) (fun _ _ _ _ _ => tds_nil) (fun _ _ _ _ _ => (ed_un o_neg (ed_var 9 (pv 9)).toB))).toE.toB abd_nil)) ad_nil))).toB)))).t (sds_one (sd_ret ed_bl)) sds_nil)
      (sds_one (sd_if (wd_and (td_cmp o_lt (ed_var 5 (pv 5)).toB ed_int.toB (nomark _)) (wd_and1 (td_val (ed_g (B := ⟨⟨W, T⟩, F, H⟩) (k := 1) O__law_same bp__law_same hG (hr.mono (by decide)) hx hE (ad_cons (ed_cmpE (o_eqX (sps := eqsO) ct.ob (fun n sp h => eqs_of O_Floor__eq h) (hr.mono (by decide)) hr.units passL) (ed_var 2 (pv 2)) (ed_var 1 (pv 1)) (nomark _)) (ad_cons ed_bl ad_nil))).toB))).t (sds_one (sd_ret ed_bl)) sds_nil)))))))
      (sds_one (sd_ret (ed_g (B := ⟨⟨W, T⟩, F, H⟩) (k := 1) O__law_same bp__law_same hG (hr.mono (by decide)) hx hE (ad_cons (ed_cmpE (o_eqX (sps := eqsO) ct.ob (fun n sp h => eqs_of O_Floor__eq h) (hr.mono (by decide)) hr.units passL) (ed_var 2 (pv 2)) (ed_var 1 (pv 1)) (nomark _)) (ad_cons ed_bl ad_nil)))))))
theorem ok__law_are_turns_right {f : Addr} {fd : FuncData} (bt : Bt mg) (ct : Ct K mg) (hm : mg "_law_are_turns_right" = some (.ref f)) (F : Fun K "_law_are_turns_right" "_law_are_turns_right" (top 67) f fd) (O__law_turns : OkD P w K mg base T "_law_turns" (top 66) 2 ["_law_sides_here", "_law_one", "_law_other"] sp__law_turns) (O_turns_between : OkD P w K mg base T "turns_between" (top 47) 9 ["one", "other"] sp_turns_between) (O_turned : OkD P w K mg base T "turned" (top 44) 8 ["floor", "direction"] sp_turned) (O__law_same : OkG P w K mg base T "_law_same" (top 59) 1 ["_law_told", "_law_due"] sp__law_same) (O__law_pick : OkD P w K mg base T "_law_pick" (top 52) 2 ["_law_deck_here", "_law_some"] sp__law_pick) (O__law_draw : OkD P w K mg base T "_law_draw" (top 51) 1 ["_law_deck_here", "_law_many"] spDraw) (O_turns_hold : OkD P w K mg base T "turns_hold" (top 48) 9 ["one", "other", "thing"] sp_turns_hold) (O_Floor__eq : EqOf P w K mg base T 1 knownO "Floor" sp_Floor__eq) : OkG P w K mg base T "_law_are_turns_right" (top 67) 10 ["_law_deck_here", "_law_sides_here", "_law_floors", "_law_one", "_law_other"] sp__law_are_turns_right := by
  refine ⟨f, fd, hm, F, okG (g := g__law_are_turns_right) F sc__law_are_turns_right len__law_are_turns_right (fun cdv A outer s H E W F R hG hr hE hp hx => ?_) law__law_are_turns_right⟩
  have nd := sc__law_are_turns_right.nd
  have hu65 := hu65_of hr
  exact (sds_cons (sd_setT (is := [5, 6]) rfl (na_cons (pg_name (i := 5) nd rfl (Or.inr rfl)) (na_cons (pg_name (i := 6) nd rfl (Or.inr rfl)) na_nil)) (ed_tup (ad_cons (ed_ix (ed_var 2 (pv 2)).toB (ed_var 3 (pv 3)).toB) (ad_cons (ed_ix (ed_var 2 (pv 2)).toB (ed_var 4 (pv 4)).toB) ad_nil))))
      (sds_cons (sd_set (i := 7) nd rfl (Or.inl rfl) (ed_o (B := ⟨⟨W, T⟩, F, H⟩) (k := 2) O__law_turns bp__law_turns (hr.mono (by decide)) hx hE (ad_cons (ed_var 1 (pv 1)) (ad_cons (ed_ix (ed_var 1 (pv 1)).toB (ed_var 3 (pv 3)).toB) (ad_cons (ed_ix (ed_var 1 (pv 1)).toB (ed_var 4 (pv 4)).toB) ad_nil)))))
      (sds_cons (sd_set (i := 8) nd rfl (Or.inl rfl) (ed_o (B := ⟨⟨W, T⟩, F, H⟩) (k := 9) O_turns_between bp_turns_between (hr.mono (by decide)) hx hE (ad_cons (ed_var 5 (pv 5)) (ad_cons (ed_var 6 (pv 6)) ad_nil))))
      (sds_cons (sd_if (wd_or (td_cmp (o_notIn hu65) (ed_var 8 (pv 8)).toB (ed_var 7 (pv 7)).toB (by rfl)) (wd_or1 (td_cmp (o_notIn hu65) (ed_callB (c_reprV ct.dig hG hu65) (by rfl) bt.b_repr nbRepr (abd_cons (ed_var 8 (pv 8)).toB abd_nil)).toB (fd_lc (own := [("_law_turns_here", 16)]) rfl nd (pid_data (ed_var 7 (pv 7))) (blkOk_by (own := [("_law_turns_here", 16)]) (N := ["_law_deck_here", "_law_sides_here", "_law_floors", "_law_one", "_law_other", "_law_near", "_law_far", "_law_rights", "_law_told", "_law_here", "_law_r", "_law_right", "_law_odd", "_law_names", "_law_turn", "_law_thing", "_law_turns_here", "_law_it"]) (sc := defScope (top 67)) (by decide +kernel)) (ct_name (by decide)) (fun _ _ _ _ _ => pg_name (i := 16) nd rfl (Or.inl rfl)) (fun _ _ _ _ _ => tds_nil) (fun _ _ _ _ _ => (ed_callB (c_reprV ct.dig hG hu65) (by rfl) bt.b_repr nbRepr (abd_cons (ed_var 16 (pv 16)).toB abd_nil)))).toE.toB (by rfl)))).t (sds_one (sd_ret ed_bl)) sds_nil)
      (sds_cons (sd_set (i := 9) nd rfl (Or.inl rfl) (ed_var 5 (pv 5)))
      (sds_cons (sd_for hp rfl (pid_data (ed_var 8 (pv 8))) (gd_name (pg_name (i := 10) nd rfl (Or.inl rfl))) (sds_one (sd_set (i := 9) nd rfl (Or.inl rfl) (ed_o (B := ⟨⟨W, T⟩, F, H⟩) (k := 8) O_turned bp_turned (hr.mono (by decide)) hx hE (ad_cons (ed_var 9 (pv 9)) (ad_cons (ed_var 10 (pv 10)) ad_nil))))))
      (sds_cons (sd_if (td_not (td_val (ed_g (B := ⟨⟨W, T⟩, F, H⟩) (k := 1) O__law_same bp__law_same hG (hr.mono (by decide)) hx hE (ad_cons (ed_cmpE (o_eqX (sps := eqsO) ct.ob (fun n sp h => eqs_of O_Floor__eq h) (hr.mono (by decide)) hr.units passL) (ed_var 9 (pv 9)) (ed_var 6 (pv 6)) (nomark _)) (ad_cons ed_bl ad_nil))).toB)) (sds_one (sd_ret ed_bl)) sds_nil)
      (sds_cons (sd_par2 (i := 11) (j := 10) rfl nd rfl rfl (by decide) rfl rfl (ad_cons (ed_o (B := ⟨⟨W, T⟩, F, H⟩) (k := 2) O__law_pick bp__law_pick (hr.mono (by decide)) hx hE (ad_cons (ed_var 0 (pv 0)) (ad_cons (ed_var 7 (pv 7)) ad_nil))) (ad_cons (ed_o (B := ⟨⟨W, T⟩, F, H⟩) (k := 1) O__law_draw bp__law_draw (hr.mono (by decide)) hx hE (ad_cons (ed_var 0 (pv 0)) (ad_cons ed_int ad_nil))) ad_nil)) (by rfl))
      (sds_cons (sd_setL (i := 12) nd rfl (Or.inl rfl) (fd_lst (ad_cons (ed_rev (ed_var 11 (pv 11)).toB) (ad_cons (fd_callTy c_list (by rfl) bt.b_list nbList (abd_cons (ed_var 11 (pv 11)).toB abd_nil)).toE (ad_cons (ed_bin o_add (ed_var 11 (pv 11)).toB (ed_tup (ad_cons (ed_var 10 (pv 10)) (ad_cons (ed_var 10 (pv 10)) ad_nil))).toB) (ad_cons (ed_sl (ed_var 11 (pv 11)).toB (od_some ed_int) od_none) (ad_cons (ed_sl (ed_var 11 (pv 11)).toB od_none (od_some (ed_un o_neg ed_int.toB))) (ad_cons (ed_bin o_add (ed_var 11 (pv 11)).toB (ed_tup (ad_cons (ed_var 10 (pv 10)) ad_nil)).toB) (ad_cons (ed_tup (ad_cons (ed_var 11 (pv 11)) ad_nil)) (ad_cons ed_non (ad_cons ed_str (ad_cons ed_dic0 (ad_cons ed_int ad_nil)))))))))))))
      (sds_cons (sd_extE (pv 12) (fd_lst (ad_cons (ed_bin o_add (ed_bin o_add (ed_sl (ed_var 11 (pv 11)).toB od_none (od_some ed_int)).toB (ed_tup (ad_cons ed_int ad_nil)).toB).toB (ed_sl (ed_var 11 (pv 11)).toB (od_some ed_int) od_none).toB) (ad_cons (ed_bin o_add (ed_tup (ad_cons ed_bl ad_nil)).toB (ed_sl (ed_var 11 (pv 11)).toB (od_some ed_int) od_none).toB) (ad_cons (ed_callTy c_tuple (by rfl) bt.b_tuple nbTuple (abd_cons (fd_lc (own := [("_law_it", 17)]) rfl nd (pid_data (ed_var 11 (pv 11))) (blkOk_by (own := [("_law_it", 17)]) (N := ["_law_deck_here", "_law_sides_here", "_law_floors", "_law_one", "_law_other", "_law_near", "_law_far", "_law_rights", "_law_told", "_law_here", "_law_r", "_law_right", "_law_odd", "_law_names", "_law_turn", "_law_thing", "_law_turns_here", "_law_it"]) (sc := defScope (top 67)) (by decide +kernel)) (ct_name (by decide)) (fun _ _ _ _ _ => pg_name (i := 17) nd rfl (Or.inl rfl)) (fun _ _ _ _ _ => tds_nil) (fun _ _ _ _ _ => (ed_callTy c_bool (by rfl) bt.b_bool nbBool (abd_cons (ed_var 17 (pv 17)).toB abd_nil)))).toE.toB abd_nil)) (ad_cons (fd_lst ad_nil).toE (ad_cons (ed_tup ad_nil) ad_nil)))))).toE)
      (sds_cons (sd_extE (pv 12) (fd_lst (ad_cons (ed_bin o_add (ed_tup (ad_cons (ed_var 10 (pv 10)) (ad_cons (ed_var 10 (pv 10)) ad_nil))).toB (ed_var 11 (pv 11)).toB) (ad_cons (ed_bin o_add (ed_var 11 (pv 11)).toB (ed_var 11 (pv 11)).toB) (ad_cons (ed_callTy c_tuple (by rfl) bt.b_tuple nbTuple (abd_cons (fd_lc (own := [("_law_it", 17)]) rfl nd (pid_data (ed_var 11 (pv 11))) (blkOk_by (own := [("_law_it", 17)]) (N := ["_law_deck_here", "_law_sides_here", "_law_floors", "_law_one", "_law_other", "_law_near", "_law_far", "_law_rights", "_law_told", "_law_here", "_law_r", "_law_right", "_law_odd", "_law_names", "_law_turn", "_law_thing", "_law_turns_here", "_law_it"]) (sc := defScope (top 67)) (by decide +kernel)) (ct_name (by decide)) (fun _ _ _ _ _ => pg_name (i := 17) nd rfl (Or.inl rfl)) (fun _ _ _ _ _ => tds_nil) (fun _ _ _ _ _ => (ed_bin o_add (ed_var 17 (pv 17)).toB ed_int.toB))).toE.toB abd_nil)) (ad_cons (ed_tup (ad_cons ed_str ad_nil)) (ad_cons (ed_tup (ad_cons ed_non ad_nil)) (ad_cons (ed_tup (ad_cons (ed_var 10 (pv 10)) ad_nil)) (ad_cons (ed_tup (ad_cons (ed_var 10 (pv 10)) (ad_cons (ed_var 10 (pv 10)) ad_nil))) ad_nil)))))))).toE)
      (sds_cons (sd_if (td_cmp (o_ne hr.units) (fd_lc (own := [("_law_turns_here", 16)]) rfl nd (pid_data (ed_var 7 (pv 7))) (blkOk_by (own := [("_law_turns_here", 16)]) (N := ["_law_deck_here", "_law_sides_here", "_law_floors", "_law_one", "_law_other", "_law_near", "_law_far", "_law_rights", "_law_told", "_law_here", "_law_r", "_law_right", "_law_odd", "_law_names", "_law_turn", "_law_thing", "_law_turns_here", "_law_it"]) (sc := defScope (top 67)) (by decide +kernel)) (ct_name (by decide)) (fun _ _ _ _ _ => pg_name (i := 16) nd rfl (Or.inl rfl)) (fun _ _ _ _ _ => (tds_one (td_not (td_val (ed_g (B := ⟨⟨W, T⟩, F, H⟩) (k := 1) O__law_same bp__law_same hG (hr.mono (by decide)) passL FinE.none (ad_cons (ed_o (B := ⟨⟨W, T⟩, F, H⟩) (k := 9) O_turns_hold bp_turns_hold (hr.mono (by decide)) passL FinE.none (ad_cons (ed_var 5 (pv 5)) (ad_cons (ed_var 6 (pv 6)) (ad_cons (ed_var 16 (pv 16)) ad_nil)))) (ad_cons ed_bl ad_nil))).toB)))) (fun _ _ _ _ _ => ed_int)).toE.toB (fd_lst ad_nil).toE.toB (nomark _)) (sds_one (sd_ret ed_bl)) sds_nil)
      (sds_cons (sd_setLc (i := 13) (own := [("_law_turns_here", 16)]) rfl nd rfl rfl (sw_true rfl rfl rfl (by decide +kernel)) (pid_data (ed_var 7 (pv 7))) (blkOk_by (own := [("_law_turns_here", 16)]) (N := ["_law_deck_here", "_law_sides_here", "_law_floors", "_law_one", "_law_other", "_law_near", "_law_far", "_law_rights", "_law_told", "_law_here", "_law_r", "_law_right", "_law_odd", "_law_names", "_law_turn", "_law_thing", "_law_turns_here", "_law_it"]) (sc := defScope (top 67)) (by decide +kernel)) (ct_name (by decide)) (fun _ _ _ _ _ => pg_name (i := 16) nd rfl (Or.inl rfl)) (fun _ _ _ _ _ => tds_nil) (fun _ _ _ _ _ => (ed_callB (c_reprV ct.dig hG hu65) (by rfl) bt.b_repr nbRepr (abd_cons (ed_var 16 (pv 16)).toB abd_nil))))
      (sds_cons (sd_for hp rfl (pid_rng1 (by rfl) bt.b_range (ad_cons ed_int ad_nil)) (gd_name (pg_name (i := 14) nd rfl (Or.inl rfl))) (sds_cons (sd_fz 12 (sd_set (i := 15) nd rfl (Or.inl rfl) (ed_o (B := ⟨⟨W, T⟩, F, H⟩) (k := 2) O__law_pick bp__law_pick (hr.mono (by decide)) hx hE (ad_cons (ed_var 0 (pv 0)) (ad_cons (ed_var 12 (pv 12)) ad_nil)))))
      (sds_one (sd_if (td_not (td_val (ed_g (B := ⟨⟨W, T⟩, F, H⟩) (k := 1) O__law_same bp__law_same hG (hr.mono (by decide)) hx hE (ad_cons (ed_ok0 (B := ⟨⟨W, T⟩, F, H⟩) (k := 9) O_turns_hold (by decide) kb_turns_hold_0 (hr.mono (by decide)) hx hE (kd_cons (ed_var 6 (pv 6)) (kd_cons (ed_var 5 (pv 5)) (kd_cons (ed_var 15 (pv 15)) kd_nil)))) (ad_cons (ed_cmp (o_in hu65) (ed_callB (c_reprV ct.dig hG hu65) (by rfl) bt.b_repr nbRepr (abd_cons (ed_var 15 (pv 15)).toB abd_nil)).toB (ed_var 13 (pv 13)).toB (by rfl)) ad_nil))).toB)) (sds_one (sd_ret ed_bl)) sds_nil))))
      (sds_one (sd_ret ed_bl))))))))))))))))
theorem ok__law_is_floor_right {f : Addr} {fd : FuncData} (bt : Bt mg) (ct : Ct K mg) (hm : mg "_law_is_floor_right" = some (.ref f)) (F : Fun K "_law_is_floor_right" "_law_is_floor_right" (top 69) f fd) (O__law_worms : OkD P w K mg base T "_law_worms" (top 61) 3 ["_law_world_here"] sp__law_worms) (O__law_same : OkG P w K mg base T "_law_same" (top 59) 1 ["_law_told", "_law_due"] sp__law_same) (O__law_pick : OkD P w K mg base T "_law_pick" (top 52) 2 ["_law_deck_here", "_law_some"] sp__law_pick) (O_sides_beside : OkD P w K mg base T "sides_beside" (top 43) 5 ["floor"] sp_sides_beside) (O__law_floor : OkD P w K mg base T "_law_floor" (top 58) 7 ["_law_deck_here", "_law_world_here"] sp__law_floor) (O__law_turned : OkD P w K mg base T "_law_turned" (top 64) 9 ["_law_floor_here", "_law_r"] sp__law_turned) (O__law_sided : OkD P w K mg base T "_law_sided" (top 65) 9 ["_law_floor_here", "_law_side"] sp__law_sided) (O__law_changed : OkD P w K mg base T "_law_changed" (top 60) 1 ["_law_side", "_law_r"] sp__law_changed) (O_Floor__eq : EqOf P w K mg base T 1 knownO "Floor" sp_Floor__eq) : OkG P w K mg base T "_law_is_floor_right" (top 69) 10 ["_law_deck_here", "_law_world_here", "_law_floor_here"] sp__law_is_floor_right := by
  refine ⟨f, fd, hm, F, okG (g := g__law_is_floor_right) F sc__law_is_floor_right len__law_is_floor_right (fun cdv A outer s H E W F R hG hr hE hp hx => ?_) law__law_is_floor_right⟩
  have nd := sc__law_is_floor_right.nd
  have hu65 := hu65_of hr
  exact (sds_cons (sd_setT (is := [3, 4, 5]) rfl (na_cons (pg_name (i := 3) nd rfl (Or.inl rfl)) (na_cons (pg_name (i := 4) nd rfl (Or.inl rfl)) (na_cons (pg_name (i := 5) nd rfl (Or.inr rfl)) na_nil))) (ed_var 1 (pv 1)))
      (sds_cons (sd_set (i := 6) nd rfl (Or.inl rfl) (ed_o (B := ⟨⟨W, T⟩, F, H⟩) (k := 3) O__law_worms bp__law_worms (hr.mono (by decide)) hx hE (ad_cons (ed_var 1 (pv 1)) ad_nil)))
      (sds_cons (sd_if (td_not (td_val (ed_g (B := ⟨⟨W, T⟩, F, H⟩) (k := 1) O__law_same bp__law_same hG (hr.mono (by decide)) hx hE (ad_cons (ed_o (B := ⟨⟨W, T⟩, F, H⟩) (k := 5) O_sides_beside bp_sides_beside (hr.mono (by decide)) hx hE (ad_cons (ed_var 2 (pv 2)) ad_nil)) (ad_cons (ed_callTy c_tuple (by rfl) bt.b_tuple nbTuple (abd_cons (fd_lc (own := [("_law_r", 7)]) rfl nd (pid_data (ed_var 6 (pv 6))) (blkOk_by (own := [("_law_r", 7)]) (N := ["_law_deck_here", "_law_world_here", "_law_floor_here", "_law_d", "_law_keys_here", "_law_side", "_law_worms_here", "_law_r", "_law_odd", "_law_turn", "_law_due", "_law_thing", "_law_it"]) (sc := defScope (top 69)) (by decide +kernel)) (ct_name (by decide)) (fun _ _ _ _ _ => pg_name (i := 7) nd rfl (Or.inl rfl)) (fun _ _ _ _ _ => tds_nil) (fun _ _ _ _ _ => (ed_tup (ad_cons (ed_var 7 (pv 7)) (ad_cons (ed_o (B := ⟨⟨W, T⟩, F, H⟩) (k := 1) O__law_changed bp__law_changed (hr.mono (by decide)) passL FinE.none (ad_cons (ed_var 5 (pv 5)) (ad_cons (ed_var 7 (pv 7)) ad_nil))) ad_nil))))).toE.toB abd_nil)) ad_nil))).toB)) (sds_one (sd_ret ed_bl)) sds_nil)
      (sds_cons (sd_for hp rfl (pid_rng1 (by rfl) bt.b_range (ad_cons ed_int ad_nil)) (gd_name (pg_name (i := 7) nd rfl (Or.inl rfl))) (sds_cons (sd_set (i := 10) nd rfl (Or.inl rfl) (ed_tup (ad_cons ed_str (ad_cons (ed_var 7 (pv 7)) ad_nil))))
      (sds_cons (sd_if (td_cmp (o_in hu65) (ed_var 7 (pv 7)).toB (ed_var 6 (pv 6)).toB (by rfl)) (sds_one (sd_set (i := 10) nd rfl (Or.inl rfl) (ed_o (B := ⟨⟨W, T⟩, F, H⟩) (k := 7) O__law_floor bp__law_floor (hr.mono (by decide)) hx hE (ad_cons (ed_var 0 (pv 0)) (ad_cons (ed_tup (ad_cons (ed_var 3 (pv 3)) (ad_cons (ed_var 4 (pv 4)) (ad_cons (ed_o (B := ⟨⟨W, T⟩, F, H⟩) (k := 1) O__law_changed bp__law_changed (hr.mono (by decide)) hx hE (ad_cons (ed_var 5 (pv 5)) (ad_cons (ed_var 7 (pv 7)) ad_nil))) ad_nil)))) ad_nil))))) sds_nil)
      (sds_one (sd_if (td_not (td_val (ed_g (B := ⟨⟨W, T⟩, F, H⟩) (k := 1) O__law_same bp__law_same hG (hr.mono (by decide)) hx hE (ad_cons (ed_cmpE (o_eqX (sps := eqsO) ct.ob (fun n sp h => eqs_of O_Floor__eq h) (hr.mono (by decide)) hr.units passL) (ed_o (B := ⟨⟨W, T⟩, F, H⟩) (k := 9) O__law_turned bp__law_turned (hr.mono (by decide)) hx hE (ad_cons (ed_var 2 (pv 2)) (ad_cons (ed_var 7 (pv 7)) ad_nil))) (ed_var 10 (pv 10)) (nomark _)) (ad_cons ed_bl ad_nil))).toB)) (sds_one (sd_ret ed_bl)) sds_nil)))))
      (sds_cons (sd_setL (i := 8) nd rfl (Or.inl rfl) (fd_lst (ad_cons ed_int (ad_cons (ed_un o_neg ed_int.toB) (ad_cons ed_bl (ad_cons ed_bl (ad_cons ed_non (ad_cons ed_str (ad_cons (ed_tup (ad_cons ed_int ad_nil)) (ad_cons (fd_lst (ad_cons ed_int ad_nil)).toE (ad_cons (ed_bin o_pow ed_int.toB ed_int.toB) (ad_cons ed_dic0 (ad_cons ed_str (ad_cons (ed_var 5 (pv 5)) (ad_cons (ed_tup (ad_cons ed_int (ad_cons (ed_var 5 (pv 5)) ad_nil))) (ad_cons ed_int (ad_cons (ed_un o_neg ed_int.toB) (ad_cons ed_str ad_nil))))))))))))))))))
      (sds_cons (sd_for hp rfl (pid_rng1 (by rfl) bt.b_range (ad_cons ed_int ad_nil)) (gd_name (pg_name (i := 9) nd rfl (Or.inl rfl))) (sds_cons (sd_fz 8 (sd_set (i := 11) nd rfl (Or.inl rfl) (ed_o (B := ⟨⟨W, T⟩, F, H⟩) (k := 2) O__law_pick bp__law_pick (hr.mono (by decide)) hx hE (ad_cons (ed_var 0 (pv 0)) (ad_cons (ed_var 8 (pv 8)) ad_nil)))))
      (sds_one (sd_if (td_not (td_val (ed_g (B := ⟨⟨W, T⟩, F, H⟩) (k := 1) O__law_same bp__law_same hG (hr.mono (by decide)) hx hE (ad_cons (ed_o (B := ⟨⟨W, T⟩, F, H⟩) (k := 9) O__law_turned bp__law_turned (hr.mono (by decide)) hx hE (ad_cons (ed_var 2 (pv 2)) (ad_cons (ed_var 11 (pv 11)) ad_nil))) (ad_cons (ed_tup (ad_cons ed_str (ad_cons (ed_var 11 (pv 11)) ad_nil))) ad_nil))).toB)) (sds_one (sd_ret ed_bl)) sds_nil))))
      (sds_cons (sd_setL (i := 8) nd rfl (Or.inl rfl) (fd_lst (ad_cons (fd_callTy c_list (by rfl) bt.b_list nbList (abd_cons (ed_var 5 (pv 5)).toB abd_nil)).toE (ad_cons (ed_sl (ed_var 5 (pv 5)).toB od_none (od_some ed_int)) (ad_cons (ed_bin o_add (ed_var 5 (pv 5)).toB (ed_tup (ad_cons ed_int ad_nil)).toB) (ad_cons (ed_tup (ad_cons ed_int (ad_cons ed_int (ad_cons ed_int (ad_cons ed_int (ad_cons ed_int ad_nil)))))) (ad_cons (ed_callTy c_tuple (by rfl) bt.b_tuple nbTuple (abd_cons (fd_lc (own := [("_law_it", 12)]) rfl nd (pid_data (ed_var 5 (pv 5))) (blkOk_by (own := [("_law_it", 12)]) (N := ["_law_deck_here", "_law_world_here", "_law_floor_here", "_law_d", "_law_keys_here", "_law_side", "_law_worms_here", "_law_r", "_law_odd", "_law_turn", "_law_due", "_law_thing", "_law_it"]) (sc := defScope (top 69)) (by decide +kernel)) (ct_name (by decide)) (fun _ _ _ _ _ => pg_name (i := 12) nd rfl (Or.inl rfl)) (fun _ _ _ _ _ => tds_nil) (fun _ _ _ _ _ => (ed_cmp o_gt (ed_var 12 (pv 12)).toB ed_int.toB (nomark _)))).toE.toB abd_nil)) (ad_cons ed_non (ad_cons ed_str (ad_cons ed_int (ad_cons (ed_tup ad_nil) (ad_cons ed_dic0 ad_nil))))))))))))
      (sds_cons (sd_extE (pv 8) (fd_lst (ad_cons (ed_tup (ad_cons ed_int (ad_cons ed_int (ad_cons ed_int (ad_cons ed_int (ad_cons ed_int ad_nil)))))) (ad_cons (ed_tup (ad_cons ed_int (ad_cons ed_int (ad_cons ed_int (ad_cons ed_int (ad_cons ed_int ad_nil)))))) (ad_cons (ed_tup (ad_cons ed_int (ad_cons ed_int (ad_cons (ed_un o_neg ed_int.toB) (ad_cons (ed_un o_neg ed_int.toB) (ad_cons ed_int ad_nil)))))) (ad_cons (ed_tup (ad_cons (ed_tup (ad_cons ed_int (ad_cons (ed_un o_neg ed_int.toB) (ad_cons ed_int (ad_cons ed_int (ad_cons (ed_un o_neg ed_int.toB) ad_nil)))))) ad_nil)) ad_nil))))).toE)
      (sds_cons (sd_appE (pv 8) (ed_callTy c_tuple (by rfl) bt.b_tuple nbTuple (abd_cons (fd_lc (own := [("_law_it", 12)]) rfl nd (pid_data (ed_var 5 (pv 5))) (blkOk_by (own := [("_law_it", 12)]) (N := ["_law_deck_here", "_law_world_here", "_law_floor_here", "_law_d", "_law_keys_here", "_law_side", "_law_worms_here", "_law_r", "_law_odd", "_law_turn", "_law_due", "_law_thing", "_law_it"]) (sc := defScope (top 69)) (by decide +kernel)) (ct_name (by decide)) (fun _ _ _ _ _ => pg_name (i := 12) nd rfl (Or.inl rfl)) (fun _ _ _ _ _ => tds_nil) (fun _ _ _ _ _ => (ed_bin o_add (ed_bin o_mul ed_int.toB (ed_var 12 (pv 12)).toB).toB ed_int.toB))).toE.toB abd_nil)))
      (sds_cons (sd_extE (pv 8) (fd_lst (ad_cons (ed_tup (ad_cons ed_bl (ad_cons (ed_un o_neg ed_int.toB) (ad_cons ed_int (ad_cons ed_int (ad_cons (ed_un o_neg ed_int.toB) ad_nil)))))) (ad_cons (ed_tup (ad_cons (ed_un o_neg ed_int.toB) (ad_cons (ed_un o_neg ed_int.toB) (ad_cons (ed_un o_neg ed_int.toB) (ad_cons (ed_un o_neg ed_int.toB) (ad_cons (ed_un o_neg ed_int.toB) ad_nil)))))) (ad_cons (ed_tup (ad_cons ed_int (ad_cons (ed_un o_neg ed_int.toB) (ad_cons ed_int (ad_cons ed_int (ad_cons ed_int ad_nil)))))) (ad_cons (ed_tup (ad_cons ed_bl (ad_cons ed_int (ad_cons ed_int (ad_cons ed_int (ad_cons ed_int ad_nil)))))) (ad_cons (ed_tup (ad_cons ed_non (ad_cons ed_int (ad_cons ed_int (ad_cons ed_int (ad_cons ed_int ad_nil)))))) ad_nil)))))).toE)
      (sds_cons (sd_for hp rfl (pid_rng1 (by rfl) bt.b_range (ad_cons ed_int ad_nil)) (gd_name (pg_name (i := 9) nd rfl (Or.inl rfl))) (sds_cons (sd_fz 8 (sd_set (i := 11) nd rfl (Or.inl rfl) (ed_o (B := ⟨⟨W, T⟩, F, H⟩) (k := 2) O__law_pick bp__law_pick (hr.mono (by decide)) hx hE (ad_cons (ed_var 0 (pv 0)) (ad_cons (ed_var 8 (pv 8)) ad_nil)))))
      (sds_one (sd_if (td_not (td_val (ed_g (B := ⟨⟨W, T⟩, F, H⟩) (k := 1) O__law_same bp__law_same hG (hr.mono (by decide)) hx hE (ad_cons (ed_o (B := ⟨⟨W, T⟩, F, H⟩) (k := 9) O__law_sided bp__law_sided (hr.mono (by decide)) hx hE (ad_cons (ed_var 2 (pv 2)) (ad_cons (ed_var 11 (pv 11)) ad_nil))) (ad_cons (ed_tup (ad_cons ed_str (ad_cons (ed_var 11 (pv 11)) ad_nil))) ad_nil))).toB)) (sds_one (sd_ret ed_bl)) sds_nil))))
      (sds_one (sd_ret ed_bl)))))))))))))
theorem ok_law {f fk : Addr} {fd fdk : FuncData} (bt : Bt mg) (ct : Ct K mg) (hmk : mg "_law_deck" = some (.ref fk)) (Fk : Fun K "_law_deck" "_law_deck" (top 50) fk fdk) (F : Fun K "law" "law" (top 70) f fd) (O__law_floor : OkD P w K mg base T "_law_floor" (top 58) 7 ["_law_deck_here", "_law_world_here"] sp__law_floor) (O__law_regular : OkD P w K mg base T "_law_regular" (top 62) 3 ["_law_deck_here"] sp__law_regular) (O__law_world : OkD P w K mg base T "_law_world" (top 57) 3 ["_law_deck_here", "_law_edge"] sp__law_world) (O__law_sides : OkD P w K mg base T "_law_sides" (top 56) 2 ["_law_d", "_law_keys_here"] sp__law_sides) (O__law_is_floor_right : OkG P w K mg base T "_law_is_floor_right" (top 69) 10 ["_law_deck_here", "_law_world_here", "_law_floor_here"] sp__law_is_floor_right) (O__law_sided : OkD P w K mg base T "_law_sided" (top 65) 9 ["_law_floor_here", "_law_side"] sp__law_sided) (O__law_moved : OkD P w K mg base T "_law_moved" (top 63) 1 ["_law_world_here", "_law_step"] sp__law_moved) (O__law_same : OkG P w K mg base T "_law_same" (top 59) 1 ["_law_told", "_law_due"] sp__law_same) (O__law_is_ring : OkG P w K mg base T "_law_is_ring" (top 68) 9 ["_law_deck_here", "_law_floor_here"] sp__law_is_ring) (O__law_draw : OkD P w K mg base T "_law_draw" (top 51) 1 ["_law_deck_here", "_law_many"] spDraw) (O__law_are_turns_right : OkG P w K mg base T "_law_are_turns_right" (top 67) 10 ["_law_deck_here", "_law_sides_here", "_law_floors", "_law_one", "_law_other"] sp__law_are_turns_right) (O__law_pick : OkD P w K mg base T "_law_pick" (top 52) 2 ["_law_deck_here", "_law_some"] sp__law_pick) (O_turns_between : OkD P w K mg base T "turns_between" (top 47) 9 ["one", "other"] sp_turns_between) (O_turns_hold : OkD P w K mg base T "turns_hold" (top 48) 9 ["one", "other", "thing"] sp_turns_hold) (O_Floor__eq : EqOf P w K mg base T 1 knownO "Floor" sp_Floor__eq) : FnG P w K mg base 11 f fd ["_law_script"] (spLaw K T) := by
  refine okLaw (g := fun W => g_law W fun _ => False) F sc_law (by decide) rfl (fun cdv A outer s H E hG hr hp hx => ⟨ps_set (i := 1) sc_law.nd rfl (Or.inl rfl) (pe_call (ok__law_deck bt Fk) (hr.mono (by decide)) rfl hmk Fk.kp (Fk.binds bp__law_deck) .nil hx (pa_cons (pv 0) pa_nil)), fun p H0 => ?_⟩) law_law
  have nd := sc_law.nd
  have W : WD := some p
  have hE : FinE ⟨some p, T⟩ ⟨K, mg⟩ hp0 H0 (fun _ => False) E := fun er z => z.elim
  have hu65 := hu65_of hr
  exact (sds_cons (sd_set (i := 2) nd rfl (Or.inl rfl) (ed_if (td_cmpE (o_eqX (sps := eqsO) ct.ob (fun n sp h => eqs_of O_Floor__eq h) (hr.mono (by decide)) hr.units passL) (ed_o (B := ⟨⟨some p, T⟩, hp0, H0⟩) (k := 1) O__law_draw bp__law_draw (hr.mono (by decide)) hx hE (ad_cons (ed_var 1 (pv 1)) (ad_cons ed_int ad_nil))) ed_int (nomark _)) (ed_o (B := ⟨⟨some p, T⟩, hp0, H0⟩) (k := 3) O__law_regular bp__law_regular (hr.mono (by decide)) hx hE (ad_cons (ed_var 1 (pv 1)) ad_nil)) (ed_o (B := ⟨⟨some p, T⟩, hp0, H0⟩) (k := 3) O__law_world bp__law_world (hr.mono (by decide)) hx hE (ad_cons (ed_var 1 (pv 1)) (ad_cons (ed_cmp o_gt (ed_o (B := ⟨⟨some p, T⟩, hp0, H0⟩) (k := 1) O__law_draw bp__law_draw (hr.mono (by decide)) hx hE (ad_cons (ed_var 1 (pv 1)) (ad_cons ed_int ad_nil))).toB ed_int.toB (nomark _)) ad_nil)))))
      (sds_cons (sd_setT (is := [3, 4, 5]) rfl (na_cons (pg_name (i := 3) nd rfl (Or.inl rfl)) (na_cons (pg_name (i := 4) nd rfl (Or.inl rfl)) (na_cons (pg_name (i := 5) nd rfl (Or.inl rfl)) na_nil))) (ed_var 2 (pv 2)))
      (sds_cons (sd_setT (is := [6, 7]) rfl (na_cons (pg_name (i := 6) nd rfl (Or.inl rfl)) (na_cons (pg_name (i := 7) nd rfl (Or.inr rfl)) na_nil)) (ed_tup (ad_cons (ed_o (B := ⟨⟨some p, T⟩, hp0, H0⟩) (k := 2) O__law_sides bp__law_sides (hr.mono (by decide)) hx hE (ad_cons (ed_var 3 (pv 3)) (ad_cons (ed_var 4 (pv 4)) ad_nil))) (ad_cons (ed_o (B := ⟨⟨some p, T⟩, hp0, H0⟩) (k := 7) O__law_floor bp__law_floor (hr.mono (by decide)) hx hE (ad_cons (ed_var 1 (pv 1)) (ad_cons (ed_var 2 (pv 2)) ad_nil))) ad_nil))))
      (sds_cons (sd_if (td_not (td_val (ed_g (B := ⟨⟨some p, T⟩, hp0, H0⟩) (k := 10) O__law_is_floor_right bp__law_is_floor_right hG (hr.mono (by decide)) hx hE (ad_cons (ed_var 1 (pv 1)) (ad_cons (ed_var 2 (pv 2)) (ad_cons (ed_var 7 (pv 7)) ad_nil)))).toB)) (sds_one (sd_ret ed_bl)) sds_nil)
      (sds_cons (sd_setLc (i := 8) (own := [("_law_it", 10)]) rfl nd rfl rfl (sw_true rfl rfl rfl (by decide +kernel)) (pid_data (ed_var 6 (pv 6))) (blkOk_by (own := [("_law_it", 10)]) (N := ["_law_script", "_law_deck_here", "_law_world_here", "_law_d", "_law_keys_here", "_law_side", "_law_sides_here", "_law_floor_here", "_law_floors", "_law_at", "_law_it", "_law_turn", "_law_step", "_law_beside"]) (sc := defScope (top 70)) (by decide +kernel)) (ct_name (by decide)) (fun _ _ _ _ _ => pg_name (i := 10) nd rfl (Or.inl rfl)) (fun _ _ _ _ _ => tds_nil) (fun _ _ _ _ _ => (ed_o (B := ⟨⟨some p, T⟩, hp0, H0⟩) (k := 9) O__law_sided bp__law_sided (hr.mono (by decide)) passL FinE.none (ad_cons (ed_var 7 (pv 7)) (ad_cons (ed_var 10 (pv 10)) ad_nil)))))
      (sds_cons (sd_for hp rfl (pid_enum (by rfl) bt.b_enumerate (ad_cons (ed_var 6 (pv 6)) ad_nil)) (gd_tup (is := [9, 10]) rfl (na_cons (pg_name (i := 9) nd rfl (Or.inl rfl)) (na_cons (pg_name (i := 10) nd rfl (Or.inl rfl)) na_nil))) (sds_one (sd_if (wd_or (td_not (td_val (ed_g (B := ⟨⟨some p, T⟩, hp0, H0⟩) (k := 1) O__law_same bp__law_same hG (hr.mono (by decide)) hx hE (ad_cons (ed_cmpE (o_eqX (sps := eqsO) ct.ob (fun n sp h => eqs_of O_Floor__eq h) (hr.mono (by decide)) hr.units passL) (ed_ix (ed_var 8 (pv 8)).toB (ed_var 9 (pv 9)).toB) (ed_o (B := ⟨⟨some p, T⟩, hp0, H0⟩) (k := 7) O__law_floor bp__law_floor (hr.mono (by decide)) hx hE (ad_cons (ed_var 1 (pv 1)) (ad_cons (ed_tup (ad_cons (ed_var 3 (pv 3)) (ad_cons (ed_var 4 (pv 4)) (ad_cons (ed_var 10 (pv 10)) ad_nil)))) ad_nil))) (nomark _)) (ad_cons ed_bl ad_nil))).toB)) (wd_or1 (td_not (td_val (ed_g (B := ⟨⟨some p, T⟩, hp0, H0⟩) (k := 1) O__law_same bp__law_same hG (hr.mono (by decide)) hx hE (ad_cons (ed_fld ct.fld (ed_ix (ed_var 8 (pv 8)).toB (ed_var 9 (pv 9)).toB).toB) (ad_cons (ed_var 10 (pv 10)) ad_nil))).toB)))).t (sds_one (sd_ret ed_bl)) sds_nil)))
      (sds_cons (sd_for hp rfl (pid_rng1 (by rfl) bt.b_range (ad_cons ed_int ad_nil)) (gd_name (pg_name (i := 11) nd rfl (Or.inl rfl))) (sds_one (sd_if (td_not (td_val (ed_g (B := ⟨⟨some p, T⟩, hp0, H0⟩) (k := 10) O__law_are_turns_right bp__law_are_turns_right hG (hr.mono (by decide)) hx hE (ad_cons (ed_var 1 (pv 1)) (ad_cons (ed_var 6 (pv 6)) (ad_cons (ed_var 8 (pv 8)) (ad_cons (ed_o (B := ⟨⟨some p, T⟩, hp0, H0⟩) (k := 1) O__law_draw bp__law_draw (hr.mono (by decide)) hx hE (ad_cons (ed_var 1 (pv 1)) (ad_cons (ed_callB c_len (by rfl) bt.b_len nbLen (abd_cons (ed_var 6 (pv 6)).toB abd_nil)) ad_nil))) (ad_cons (ed_o (B := ⟨⟨some p, T⟩, hp0, H0⟩) (k := 1) O__law_draw bp__law_draw (hr.mono (by decide)) hx hE (ad_cons (ed_var 1 (pv 1)) (ad_cons (ed_callB c_len (by rfl) bt.b_len nbLen (abd_cons (ed_var 6 (pv 6)).toB abd_nil)) ad_nil))) ad_nil)))))).toB)) (sds_one (sd_ret ed_bl)) sds_nil)))
      (sds_cons (sd_set (i := 12) nd rfl (Or.inl rfl) (ed_tup (ad_cons ed_int (ad_cons ed_int (ad_cons (ed_un o_neg ed_int.toB) (ad_cons ed_int (ad_cons ed_int ad_nil)))))))
      (sds_cons (sd_set (i := 13) nd rfl (Or.inl rfl) (ed_o (B := ⟨⟨some p, T⟩, hp0, H0⟩) (k := 7) O__law_floor bp__law_floor (hr.mono (by decide)) hx hE (ad_cons (ed_var 1 (pv 1)) (ad_cons (ed_o (B := ⟨⟨some p, T⟩, hp0, H0⟩) (k := 1) O__law_moved bp__law_moved (hr.mono (by decide)) hx hE (ad_cons (ed_var 2 (pv 2)) (ad_cons (ed_o (B := ⟨⟨some p, T⟩, hp0, H0⟩) (k := 2) O__law_pick bp__law_pick (hr.mono (by decide)) hx hE (ad_cons (ed_var 1 (pv 1)) (ad_cons (ed_tup (ad_cons (ed_var 12 (pv 12)) (ad_cons (ed_rev (ed_var 12 (pv 12)).toB) (ad_cons (ed_tup (ad_cons ed_int (ad_cons (ed_bin o_pow ed_int.toB ed_int.toB) (ad_cons ed_int (ad_cons (ed_un o_neg (ed_bin o_pow ed_int.toB ed_int.toB).toB) (ad_cons ed_int ad_nil)))))) ad_nil)))) ad_nil))) ad_nil))) ad_nil))))
      (sds_cons (sd_if (td_not (td_val (ed_g (B := ⟨⟨some p, T⟩, hp0, H0⟩) (k := 1) O__law_same bp__law_same hG (hr.mono (by decide)) hx hE (ad_cons (ed_o (B := ⟨⟨some p, T⟩, hp0, H0⟩) (k := 9) O_turns_between bp_turns_between (hr.mono (by decide)) hx hE (ad_cons (ed_var 7 (pv 7)) (ad_cons (ed_var 13 (pv 13)) ad_nil))) (ad_cons ed_non ad_nil))).toB)) (sds_one (sd_ret ed_bl)) sds_nil)
      (sds_cons (sd_if (td_not (td_val (ed_g (B := ⟨⟨some p, T⟩, hp0, H0⟩) (k := 1) O__law_same bp__law_same hG (hr.mono (by decide)) hx hE (ad_cons (ed_o (B := ⟨⟨some p, T⟩, hp0, H0⟩) (k := 9) O_turns_hold bp_turns_hold (hr.mono (by decide)) hx hE (ad_cons (ed_var 7 (pv 7)) (ad_cons (ed_var 13 (pv 13)) (ad_cons (ed_o (B := ⟨⟨some p, T⟩, hp0, H0⟩) (k := 2) O__law_pick bp__law_pick (hr.mono (by decide)) hx hE (ad_cons (ed_var 1 (pv 1)) (ad_cons (ed_tup (ad_cons (ed_tup ad_nil) (ad_cons (ed_tup (ad_cons ed_int ad_nil)) (ad_cons ed_non (ad_cons (ed_tup (ad_cons ed_int (ad_cons ed_int ad_nil))) (ad_cons (fd_lst ad_nil).toE ad_nil)))))) ad_nil))) ad_nil)))) (ad_cons ed_bl ad_nil))).toB)) (sds_one (sd_ret ed_bl)) sds_nil)
      (sds_one (sd_ret (ed_if (td_cmpE (o_eqX (sps := eqsO) ct.ob (fun n sp h => eqs_of O_Floor__eq h) (hr.mono (by decide)) hr.units passL) (ed_callB c_len (by rfl) bt.b_len nbLen (abd_cons (ed_var 6 (pv 6)).toB abd_nil)) ed_int (nomark _)) (ed_g (B := ⟨⟨some p, T⟩, hp0, H0⟩) (k := 9) O__law_is_ring bp__law_is_ring hG (hr.mono (by decide)) hx hE (ad_cons (ed_var 1 (pv 1)) (ad_cons (ed_var 7 (pv 7)) ad_nil))) ed_bl))))))))))))))
end
theorem all_ok {l : PySem.W.OpenLaw} {w : World} {K : PySem.W.Frag} {h : Heap} {mg : Str → Option Value} {fa : Addr} (X : K.In h) (G : h.Ns mainGlobals mg) (hfa : mg "law" = some (.ref fa))
    {f10 f11 f12 f13 f14 f15 f16 f17 f19 f31 f32 f33 f34 f38 f40 f41 f42 f43 f44 f45 f46 f47 f48 f50 f51 f52 f53 f54 f55 f56 f57 f58 f59 f60 f61 f62 f63 f64 f65 f66 f67 f68 f69 f70 C_BadDirection C_BadNumber C_BadSide C_NoSuchSide C_NoWorm fI_BadDirection fI_BadNumber fI_BadSide fI_NoSuchSide fI_NoWorm : Addr} {od10 an10 od11 an11 od12 an12 od13 an13 od14 an14 od15 an15 od16 an16 od17 an17 od19 an19 od31 an31 od32 an32 od33 an33 od34 an34 od38 an38 od40 an40 od41 an41 od42 an42 od43 an43 od44 an44 od45 an45 od46 an46 od47 an47 od48 an48 od50 an50 od51 an51 od52 an52 od53 an53 od54 an54 od55 an55 od56 an56 od57 an57 od58 an58 od59 an59 od60 an60 od61 an61 od62 an62 od63 an63 od64 an64 od65 an65 od66 an66 od67 an67 od68 an68 od69 an69 od70 an70 od_BadDirection an_BadDirection od_BadNumber an_BadNumber od_BadSide an_BadSide od_NoSuchSide an_NoSuchSide od_NoWorm an_NoWorm : Option Addr} {sl10 sl11 sl12 sl13 sl14 sl15 sl16 sl17 sl19 sl31 sl32 sl33 sl34 sl38 sl40 sl41 sl42 sl43 sl44 sl45 sl46 sl47 sl48 sl50 sl51 sl52 sl53 sl54 sl55 sl56 sl57 sl58 sl59 sl60 sl61 sl62 sl63 sl64 sl65 sl66 sl67 sl68 sl69 sl70 sl_BadDirection sl_BadNumber sl_BadSide sl_NoSuchSide sl_NoWorm : Array (Option Value)} {oc10 kV10 dc10 pm10 cd10 ct10 oc11 kV11 dc11 pm11 cd11 ct11 oc12 kV12 dc12 pm12 cd12 ct12 oc13 kV13 dc13 pm13 cd13 ct13 oc14 kV14 dc14 pm14 cd14 ct14 oc15 kV15 dc15 pm15 cd15 ct15 oc16 kV16 dc16 pm16 cd16 ct16 oc17 kV17 dc17 pm17 cd17 ct17 oc19 kV19 dc19 pm19 cd19 ct19 oc31 kV31 dc31 pm31 cd31 ct31 oc32 kV32 dc32 pm32 cd32 ct32 oc33 kV33 dc33 pm33 cd33 ct33 oc34 kV34 dc34 pm34 cd34 ct34 oc38 kV38 dc38 pm38 cd38 ct38 oc40 kV40 dc40 pm40 cd40 ct40 oc41 kV41 dc41 pm41 cd41 ct41 oc42 kV42 dc42 pm42 cd42 ct42 oc43 kV43 dc43 pm43 cd43 ct43 oc44 kV44 dc44 pm44 cd44 ct44 oc45 kV45 dc45 pm45 cd45 ct45 oc46 kV46 dc46 pm46 cd46 ct46 oc47 kV47 dc47 pm47 cd47 ct47 oc48 kV48 dc48 pm48 cd48 ct48 oc50 kV50 dc50 pm50 cd50 ct50 oc51 kV51 dc51 pm51 cd51 ct51 oc52 kV52 dc52 pm52 cd52 ct52 oc53 kV53 dc53 pm53 cd53 ct53 oc54 kV54 dc54 pm54 cd54 ct54 oc55 kV55 dc55 pm55 cd55 ct55 oc56 kV56 dc56 pm56 cd56 ct56 oc57 kV57 dc57 pm57 cd57 ct57 oc58 kV58 dc58 pm58 cd58 ct58 oc59 kV59 dc59 pm59 cd59 ct59 oc60 kV60 dc60 pm60 cd60 ct60 oc61 kV61 dc61 pm61 cd61 ct61 oc62 kV62 dc62 pm62 cd62 ct62 oc63 kV63 dc63 pm63 cd63 ct63 oc64 kV64 dc64 pm64 cd64 ct64 oc65 kV65 dc65 pm65 cd65 ct65 oc66 kV66 dc66 pm66 cd66 ct66 oc67 kV67 dc67 pm67 cd67 ct67 oc68 kV68 dc68 pm68 cd68 ct68 oc69 kV69 dc69 pm69 cd69 ct69 oc70 kV70 dc70 pm70 cd70 ct70 oc_BadDirection kV_BadDirection dc_BadDirection pm_BadDirection cd_BadDirection ct_BadDirection oc_BadNumber kV_BadNumber dc_BadNumber pm_BadNumber cd_BadNumber ct_BadNumber oc_BadSide kV_BadSide dc_BadSide pm_BadSide cd_BadSide ct_BadSide oc_NoSuchSide kV_NoSuchSide dc_NoSuchSide pm_NoSuchSide cd_NoSuchSide ct_NoSuchSide oc_NoWorm kV_NoWorm dc_NoWorm pm_NoWorm cd_NoWorm ct_NoWorm : Value}
    {Ty1 Ty7 C_Floor fI_Floor DI_Floor Ty13 fE_Floor : Addr} {Dy1 Dy7 DDI_Floor odI_Floor anI_Floor Dy13 odE_Floor anE_Floor : Option Addr} {Sy1 Sy7 DSI_Floor slI_Floor Sy13 slE_Floor : Array (Option Value)} {DCI_Floor ocI_Floor kVI_Floor dcI_Floor pmI_Floor cdI_Floor ctI_Floor ocE_Floor kVE_Floor dcE_Floor pmE_Floor cdE_Floor ctE_Floor : Value} {y2 y3 y4 y5 y6 y8 y9 y10 y11 y12 y14 y15 y16 y17 y18 : Tok} {Ny1 Ny7 DNI_Floor Ny13 : Nat}
    (a10 : PySem.W.nsIn K mainGlobals "is_integer" = some (some (.ref f10))) (l10 : K.lookup f10 = some ⟨oc10, od10, .func (PySem.W.fnOf "is_integer" "is_integer" (defArgs (top 10)) (defBody (top 10)) (defScope (top 10)) .none kV10 dc10 pm10 an10 cd10 ct10), sl10⟩) (c10 : PySem.W.codeIn K cd10 "is_integer" = true) (k10 : PySem.W.keepIn K (.ref f10) = true) (a11 : PySem.W.nsIn K mainGlobals "is_number" = some (some (.ref f11))) (l11 : K.lookup f11 = some ⟨oc11, od11, .func (PySem.W.fnOf "is_number" "is_number" (defArgs (top 11)) (defBody (top 11)) (defScope (top 11)) .none kV11 dc11 pm11 an11 cd11 ct11), sl11⟩) (c11 : PySem.W.codeIn K cd11 "is_number" = true) (k11 : PySem.W.keepIn K (.ref f11) = true) (a12 : PySem.W.nsIn K mainGlobals "normal" = some (some (.ref f12))) (l12 : K.lookup f12 = some ⟨oc12, od12, .func (PySem.W.fnOf "normal" "normal" (defArgs (top 12)) (defBody (top 12)) (defScope (top 12)) .none kV12 dc12 pm12 an12 cd12 ct12), sl12⟩) (c12 : PySem.W.codeIn K cd12 "normal" = true) (k12 : PySem.W.keepIn K (.ref f12) = true) (a13 : PySem.W.nsIn K mainGlobals "negative" = some (some (.ref f13))) (l13 : K.lookup f13 = some ⟨oc13, od13, .func (PySem.W.fnOf "negative" "negative" (defArgs (top 13)) (defBody (top 13)) (defScope (top 13)) .none kV13 dc13 pm13 an13 cd13 ct13), sl13⟩) (c13 : PySem.W.codeIn K cd13 "negative" = true) (k13 : PySem.W.keepIn K (.ref f13) = true) (a14 : PySem.W.nsIn K mainGlobals "added" = some (some (.ref f14))) (l14 : K.lookup f14 = some ⟨oc14, od14, .func (PySem.W.fnOf "added" "added" (defArgs (top 14)) (defBody (top 14)) (defScope (top 14)) .none kV14 dc14 pm14 an14 cd14 ct14), sl14⟩) (c14 : PySem.W.codeIn K cd14 "added" = true) (k14 : PySem.W.keepIn K (.ref f14) = true) (a15 : PySem.W.nsIn K mainGlobals "taken" = some (some (.ref f15))) (l15 : K.lookup f15 = some ⟨oc15, od15, .func (PySem.W.fnOf "taken" "taken" (defArgs (top 15)) (defBody (top 15)) (defScope (top 15)) .none kV15 dc15 pm15 an15 cd15 ct15), sl15⟩) (c15 : PySem.W.codeIn K cd15 "taken" = true) (k15 : PySem.W.keepIn K (.ref f15) = true) (a16 : PySem.W.nsIn K mainGlobals "times_g" = some (some (.ref f16))) (l16 : K.lookup f16 = some ⟨oc16, od16, .func (PySem.W.fnOf "times_g" "times_g" (defArgs (top 16)) (defBody (top 16)) (defScope (top 16)) .none kV16 dc16 pm16 an16 cd16 ct16), sl16⟩) (c16 : PySem.W.codeIn K cd16 "times_g" = true) (k16 : PySem.W.keepIn K (.ref f16) = true) (a17 : PySem.W.nsIn K mainGlobals "is_whole_number" = some (some (.ref f17))) (l17 : K.lookup f17 = some ⟨oc17, od17, .func (PySem.W.fnOf "is_whole_number" "is_whole_number" (defArgs (top 17)) (defBody (top 17)) (defScope (top 17)) .none kV17 dc17 pm17 an17 cd17 ct17), sl17⟩) (c17 : PySem.W.codeIn K cd17 "is_whole_number" = true) (k17 : PySem.W.keepIn K (.ref f17) = true) (a19 : PySem.W.nsIn K mainGlobals "is_direction" = some (some (.ref f19))) (l19 : K.lookup f19 = some ⟨oc19, od19, .func (PySem.W.fnOf "is_direction" "is_direction" (defArgs (top 19)) (defBody (top 19)) (defScope (top 19)) .none kV19 dc19 pm19 an19 cd19 ct19), sl19⟩) (c19 : PySem.W.codeIn K cd19 "is_direction" = true) (k19 : PySem.W.keepIn K (.ref f19) = true) (a31 : PySem.W.nsIn K mainGlobals "keys_from" = some (some (.ref f31))) (l31 : K.lookup f31 = some ⟨oc31, od31, .func (PySem.W.fnOf "keys_from" "keys_from" (defArgs (top 31)) (defBody (top 31)) (defScope (top 31)) .none kV31 dc31 pm31 an31 cd31 ct31), sl31⟩) (c31 : PySem.W.codeIn K cd31 "keys_from" = true) (k31 : PySem.W.keepIn K (.ref f31) = true) (a32 : PySem.W.nsIn K mainGlobals "whole_directions" = some (some (.ref f32))) (l32 : K.lookup f32 = some ⟨oc32, od32, .func (PySem.W.fnOf "whole_directions" "whole_directions" (defArgs (top 32)) (defBody (top 32)) (defScope (top 32)) .none kV32 dc32 pm32 an32 cd32 ct32), sl32⟩) (c32 : PySem.W.codeIn K cd32 "whole_directions" = true) (k32 : PySem.W.keepIn K (.ref f32) = true) (a33 : PySem.W.nsIn K mainGlobals "sides_of" = some (some (.ref f33))) (l33 : K.lookup f33 = some ⟨oc33, od33, .func (PySem.W.fnOf "sides_of" "sides_of" (defArgs (top 33)) (defBody (top 33)) (defScope (top 33)) .none kV33 dc33 pm33 an33 cd33 ct33), sl33⟩) (c33 : PySem.W.codeIn K cd33 "sides_of" = true) (k33 : PySem.W.keepIn K (.ref f33) = true) (a34 : PySem.W.nsIn K mainGlobals "is_side" = some (some (.ref f34))) (l34 : K.lookup f34 = some ⟨oc34, od34, .func (PySem.W.fnOf "is_side" "is_side" (defArgs (top 34)) (defBody (top 34)) (defScope (top 34)) .none kV34 dc34 pm34 an34 cd34 ct34), sl34⟩) (c34 : PySem.W.codeIn K cd34 "is_side" = true) (k34 : PySem.W.keepIn K (.ref f34) = true) (a38 : PySem.W.nsIn K mainGlobals "whole_keys" = some (some (.ref f38))) (l38 : K.lookup f38 = some ⟨oc38, od38, .func (PySem.W.fnOf "whole_keys" "whole_keys" (defArgs (top 38)) (defBody (top 38)) (defScope (top 38)) .none kV38 dc38 pm38 an38 cd38 ct38), sl38⟩) (c38 : PySem.W.codeIn K cd38 "whole_keys" = true) (k38 : PySem.W.keepIn K (.ref f38) = true) (a40 : PySem.W.nsIn K mainGlobals "changed_side" = some (some (.ref f40))) (l40 : K.lookup f40 = some ⟨oc40, od40, .func (PySem.W.fnOf "changed_side" "changed_side" (defArgs (top 40)) (defBody (top 40)) (defScope (top 40)) .none kV40 dc40 pm40 an40 cd40 ct40), sl40⟩) (c40 : PySem.W.codeIn K cd40 "changed_side" = true) (k40 : PySem.W.keepIn K (.ref f40) = true) (a41 : PySem.W.nsIn K mainGlobals "with_keys" = some (some (.ref f41))) (l41 : K.lookup f41 = some ⟨oc41, od41, .func (PySem.W.fnOf "with_keys" "with_keys" (defArgs (top 41)) (defBody (top 41)) (defScope (top 41)) .none kV41 dc41 pm41 an41 cd41 ct41), sl41⟩) (c41 : PySem.W.codeIn K cd41 "with_keys" = true) (k41 : PySem.W.keepIn K (.ref f41) = true) (a42 : PySem.W.nsIn K mainGlobals "worm_directions" = some (some (.ref f42))) (l42 : K.lookup f42 = some ⟨oc42, od42, .func (PySem.W.fnOf "worm_directions" "worm_directions" (defArgs (top 42)) (defBody (top 42)) (defScope (top 42)) .none kV42 dc42 pm42 an42 cd42 ct42), sl42⟩) (c42 : PySem.W.codeIn K cd42 "worm_directions" = true) (k42 : PySem.W.keepIn K (.ref f42) = true) (a43 : PySem.W.nsIn K mainGlobals "sides_beside" = some (some (.ref f43))) (l43 : K.lookup f43 = some ⟨oc43, od43, .func (PySem.W.fnOf "sides_beside" "sides_beside" (defArgs (top 43)) (defBody (top 43)) (defScope (top 43)) .none kV43 dc43 pm43 an43 cd43 ct43), sl43⟩) (c43 : PySem.W.codeIn K cd43 "sides_beside" = true) (k43 : PySem.W.keepIn K (.ref f43) = true) (a44 : PySem.W.nsIn K mainGlobals "turned" = some (some (.ref f44))) (l44 : K.lookup f44 = some ⟨oc44, od44, .func (PySem.W.fnOf "turned" "turned" (defArgs (top 44)) (defBody (top 44)) (defScope (top 44)) .none kV44 dc44 pm44 an44 cd44 ct44), sl44⟩) (c44 : PySem.W.codeIn K cd44 "turned" = true) (k44 : PySem.W.keepIn K (.ref f44) = true) (a45 : PySem.W.nsIn K mainGlobals "with_side" = some (some (.ref f45))) (l45 : K.lookup f45 = some ⟨oc45, od45, .func (PySem.W.fnOf "with_side" "with_side" (defArgs (top 45)) (defBody (top 45)) (defScope (top 45)) .none kV45 dc45 pm45 an45 cd45 ct45), sl45⟩) (c45 : PySem.W.codeIn K cd45 "with_side" = true) (k45 : PySem.W.keepIn K (.ref f45) = true) (a46 : PySem.W.nsIn K mainGlobals "unlike_signs" = some (some (.ref f46))) (l46 : K.lookup f46 = some ⟨oc46, od46, .func (PySem.W.fnOf "unlike_signs" "unlike_signs" (defArgs (top 46)) (defBody (top 46)) (defScope (top 46)) .none kV46 dc46 pm46 an46 cd46 ct46), sl46⟩) (c46 : PySem.W.codeIn K cd46 "unlike_signs" = true) (k46 : PySem.W.keepIn K (.ref f46) = true) (a47 : PySem.W.nsIn K mainGlobals "turns_between" = some (some (.ref f47))) (l47 : K.lookup f47 = some ⟨oc47, od47, .func (PySem.W.fnOf "turns_between" "turns_between" (defArgs (top 47)) (defBody (top 47)) (defScope (top 47)) .none kV47 dc47 pm47 an47 cd47 ct47), sl47⟩) (c47 : PySem.W.codeIn K cd47 "turns_between" = true) (k47 : PySem.W.keepIn K (.ref f47) = true) (a48 : PySem.W.nsIn K mainGlobals "turns_hold" = some (some (.ref f48))) (l48 : K.lookup f48 = some ⟨oc48, od48, .func (PySem.W.fnOf "turns_hold" "turns_hold" (defArgs (top 48)) (defBody (top 48)) (defScope (top 48)) .none kV48 dc48 pm48 an48 cd48 ct48), sl48⟩) (c48 : PySem.W.codeIn K cd48 "turns_hold" = true) (k48 : PySem.W.keepIn K (.ref f48) = true) (a50 : PySem.W.nsIn K mainGlobals "_law_deck" = some (some (.ref f50))) (l50 : K.lookup f50 = some ⟨oc50, od50, .func (PySem.W.fnOf "_law_deck" "_law_deck" (defArgs (top 50)) (defBody (top 50)) (defScope (top 50)) .none kV50 dc50 pm50 an50 cd50 ct50), sl50⟩) (c50 : PySem.W.codeIn K cd50 "_law_deck" = true) (k50 : PySem.W.keepIn K (.ref f50) = true) (a51 : PySem.W.nsIn K mainGlobals "_law_draw" = some (some (.ref f51))) (l51 : K.lookup f51 = some ⟨oc51, od51, .func (PySem.W.fnOf "_law_draw" "_law_draw" (defArgs (top 51)) (defBody (top 51)) (defScope (top 51)) .none kV51 dc51 pm51 an51 cd51 ct51), sl51⟩) (c51 : PySem.W.codeIn K cd51 "_law_draw" = true) (k51 : PySem.W.keepIn K (.ref f51) = true) (a52 : PySem.W.nsIn K mainGlobals "_law_pick" = some (some (.ref f52))) (l52 : K.lookup f52 = some ⟨oc52, od52, .func (PySem.W.fnOf "_law_pick" "_law_pick" (defArgs (top 52)) (defBody (top 52)) (defScope (top 52)) .none kV52 dc52 pm52 an52 cd52 ct52), sl52⟩) (c52 : PySem.W.codeIn K cd52 "_law_pick" = true) (k52 : PySem.W.keepIn K (.ref f52) = true) (a53 : PySem.W.nsIn K mainGlobals "_law_number" = some (some (.ref f53))) (l53 : K.lookup f53 = some ⟨oc53, od53, .func (PySem.W.fnOf "_law_number" "_law_number" (defArgs (top 53)) (defBody (top 53)) (defScope (top 53)) .none kV53 dc53 pm53 an53 cd53 ct53), sl53⟩) (c53 : PySem.W.codeIn K cd53 "_law_number" = true) (k53 : PySem.W.keepIn K (.ref f53) = true) (a54 : PySem.W.nsIn K mainGlobals "_law_keys" = some (some (.ref f54))) (l54 : K.lookup f54 = some ⟨oc54, od54, .func (PySem.W.fnOf "_law_keys" "_law_keys" (defArgs (top 54)) (defBody (top 54)) (defScope (top 54)) .none kV54 dc54 pm54 an54 cd54 ct54), sl54⟩) (c54 : PySem.W.codeIn K cd54 "_law_keys" = true) (k54 : PySem.W.keepIn K (.ref f54) = true) (a55 : PySem.W.nsIn K mainGlobals "_law_whole" = some (some (.ref f55))) (l55 : K.lookup f55 = some ⟨oc55, od55, .func (PySem.W.fnOf "_law_whole" "_law_whole" (defArgs (top 55)) (defBody (top 55)) (defScope (top 55)) .none kV55 dc55 pm55 an55 cd55 ct55), sl55⟩) (c55 : PySem.W.codeIn K cd55 "_law_whole" = true) (k55 : PySem.W.keepIn K (.ref f55) = true) (a56 : PySem.W.nsIn K mainGlobals "_law_sides" = some (some (.ref f56))) (l56 : K.lookup f56 = some ⟨oc56, od56, .func (PySem.W.fnOf "_law_sides" "_law_sides" (defArgs (top 56)) (defBody (top 56)) (defScope (top 56)) .none kV56 dc56 pm56 an56 cd56 ct56), sl56⟩) (c56 : PySem.W.codeIn K cd56 "_law_sides" = true) (k56 : PySem.W.keepIn K (.ref f56) = true) (a57 : PySem.W.nsIn K mainGlobals "_law_world" = some (some (.ref f57))) (l57 : K.lookup f57 = some ⟨oc57, od57, .func (PySem.W.fnOf "_law_world" "_law_world" (defArgs (top 57)) (defBody (top 57)) (defScope (top 57)) .none kV57 dc57 pm57 an57 cd57 ct57), sl57⟩) (c57 : PySem.W.codeIn K cd57 "_law_world" = true) (k57 : PySem.W.keepIn K (.ref f57) = true) (a58 : PySem.W.nsIn K mainGlobals "_law_floor" = some (some (.ref f58))) (l58 : K.lookup f58 = some ⟨oc58, od58, .func (PySem.W.fnOf "_law_floor" "_law_floor" (defArgs (top 58)) (defBody (top 58)) (defScope (top 58)) .none kV58 dc58 pm58 an58 cd58 ct58), sl58⟩) (c58 : PySem.W.codeIn K cd58 "_law_floor" = true) (k58 : PySem.W.keepIn K (.ref f58) = true) (a59 : PySem.W.nsIn K mainGlobals "_law_same" = some (some (.ref f59))) (l59 : K.lookup f59 = some ⟨oc59, od59, .func (PySem.W.fnOf "_law_same" "_law_same" (defArgs (top 59)) (defBody (top 59)) (defScope (top 59)) .none kV59 dc59 pm59 an59 cd59 ct59), sl59⟩) (c59 : PySem.W.codeIn K cd59 "_law_same" = true) (k59 : PySem.W.keepIn K (.ref f59) = true) (a60 : PySem.W.nsIn K mainGlobals "_law_changed" = some (some (.ref f60))) (l60 : K.lookup f60 = some ⟨oc60, od60, .func (PySem.W.fnOf "_law_changed" "_law_changed" (defArgs (top 60)) (defBody (top 60)) (defScope (top 60)) .none kV60 dc60 pm60 an60 cd60 ct60), sl60⟩) (c60 : PySem.W.codeIn K cd60 "_law_changed" = true) (k60 : PySem.W.keepIn K (.ref f60) = true) (a61 : PySem.W.nsIn K mainGlobals "_law_worms" = some (some (.ref f61))) (l61 : K.lookup f61 = some ⟨oc61, od61, .func (PySem.W.fnOf "_law_worms" "_law_worms" (defArgs (top 61)) (defBody (top 61)) (defScope (top 61)) .none kV61 dc61 pm61 an61 cd61 ct61), sl61⟩) (c61 : PySem.W.codeIn K cd61 "_law_worms" = true) (k61 : PySem.W.keepIn K (.ref f61) = true) (a62 : PySem.W.nsIn K mainGlobals "_law_regular" = some (some (.ref f62))) (l62 : K.lookup f62 = some ⟨oc62, od62, .func (PySem.W.fnOf "_law_regular" "_law_regular" (defArgs (top 62)) (defBody (top 62)) (defScope (top 62)) .none kV62 dc62 pm62 an62 cd62 ct62), sl62⟩) (c62 : PySem.W.codeIn K cd62 "_law_regular" = true) (k62 : PySem.W.keepIn K (.ref f62) = true) (a63 : PySem.W.nsIn K mainGlobals "_law_moved" = some (some (.ref f63))) (l63 : K.lookup f63 = some ⟨oc63, od63, .func (PySem.W.fnOf "_law_moved" "_law_moved" (defArgs (top 63)) (defBody (top 63)) (defScope (top 63)) .none kV63 dc63 pm63 an63 cd63 ct63), sl63⟩) (c63 : PySem.W.codeIn K cd63 "_law_moved" = true) (k63 : PySem.W.keepIn K (.ref f63) = true) (a64 : PySem.W.nsIn K mainGlobals "_law_turned" = some (some (.ref f64))) (l64 : K.lookup f64 = some ⟨oc64, od64, .func (PySem.W.fnOf "_law_turned" "_law_turned" (defArgs (top 64)) (defBody (top 64)) (defScope (top 64)) .none kV64 dc64 pm64 an64 cd64 ct64), sl64⟩) (c64 : PySem.W.codeIn K cd64 "_law_turned" = true) (k64 : PySem.W.keepIn K (.ref f64) = true) (a65 : PySem.W.nsIn K mainGlobals "_law_sided" = some (some (.ref f65))) (l65 : K.lookup f65 = some ⟨oc65, od65, .func (PySem.W.fnOf "_law_sided" "_law_sided" (defArgs (top 65)) (defBody (top 65)) (defScope (top 65)) .none kV65 dc65 pm65 an65 cd65 ct65), sl65⟩) (c65 : PySem.W.codeIn K cd65 "_law_sided" = true) (k65 : PySem.W.keepIn K (.ref f65) = true) (a66 : PySem.W.nsIn K mainGlobals "_law_turns" = some (some (.ref f66))) (l66 : K.lookup f66 = some ⟨oc66, od66, .func (PySem.W.fnOf "_law_turns" "_law_turns" (defArgs (top 66)) (defBody (top 66)) (defScope (top 66)) .none kV66 dc66 pm66 an66 cd66 ct66), sl66⟩) (c66 : PySem.W.codeIn K cd66 "_law_turns" = true) (k66 : PySem.W.keepIn K (.ref f66) = true) (a67 : PySem.W.nsIn K mainGlobals "_law_are_turns_right" = some (some (.ref f67))) (l67 : K.lookup f67 = some ⟨oc67, od67, .func (PySem.W.fnOf "_law_are_turns_right" "_law_are_turns_right" (defArgs (top 67)) (defBody (top 67)) (defScope (top 67)) .none kV67 dc67 pm67 an67 cd67 ct67), sl67⟩) (c67 : PySem.W.codeIn K cd67 "_law_are_turns_right" = true) (k67 : PySem.W.keepIn K (.ref f67) = true) (a68 : PySem.W.nsIn K mainGlobals "_law_is_ring" = some (some (.ref f68))) (l68 : K.lookup f68 = some ⟨oc68, od68, .func (PySem.W.fnOf "_law_is_ring" "_law_is_ring" (defArgs (top 68)) (defBody (top 68)) (defScope (top 68)) .none kV68 dc68 pm68 an68 cd68 ct68), sl68⟩) (c68 : PySem.W.codeIn K cd68 "_law_is_ring" = true) (k68 : PySem.W.keepIn K (.ref f68) = true) (a69 : PySem.W.nsIn K mainGlobals "_law_is_floor_right" = some (some (.ref f69))) (l69 : K.lookup f69 = some ⟨oc69, od69, .func (PySem.W.fnOf "_law_is_floor_right" "_law_is_floor_right" (defArgs (top 69)) (defBody (top 69)) (defScope (top 69)) .none kV69 dc69 pm69 an69 cd69 ct69), sl69⟩) (c69 : PySem.W.codeIn K cd69 "_law_is_floor_right" = true) (k69 : PySem.W.keepIn K (.ref f69) = true) (a70 : PySem.W.nsIn K mainGlobals "law" = some (some (.ref f70))) (l70 : K.lookup f70 = some ⟨oc70, od70, .func (PySem.W.fnOf "law" "law" (defArgs (top 70)) (defBody (top 70)) (defScope (top 70)) .none kV70 dc70 pm70 an70 cd70 ct70), sl70⟩) (c70 : PySem.W.codeIn K cd70 "law" = true) (k70 : PySem.W.keepIn K (.ref f70) = true)
    (z_all : PySem.W.nsIn K mainGlobals "all" = some none) (z_bool : PySem.W.nsIn K mainGlobals "bool" = some none) (z_enumerate : PySem.W.nsIn K mainGlobals "enumerate" = some none) (z_int : PySem.W.nsIn K mainGlobals "int" = some none) (z_isinstance : PySem.W.nsIn K mainGlobals "isinstance" = some none) (z_len : PySem.W.nsIn K mainGlobals "len" = some none) (z_list : PySem.W.nsIn K mainGlobals "list" = some none) (z_max : PySem.W.nsIn K mainGlobals "max" = some none) (z_range : PySem.W.nsIn K mainGlobals "range" = some none) (z_repr : PySem.W.nsIn K mainGlobals "repr" = some none) (z_sorted : PySem.W.nsIn K mainGlobals "sorted" = some none) (z_tuple : PySem.W.nsIn K mainGlobals "tuple" = some none) (z_zip : PySem.W.nsIn K mainGlobals "zip" = some none) (z_gcd : PySem.W.nsIn K mainGlobals "gcd" = some (some (.builtin "math.gcd"))) (e1_BadDirection : PySem.W.nsIn K mainGlobals "BadDirection" = some (some (.ref C_BadDirection))) (e4_BadDirection : PySem.W.subIn K (.ref C_BadDirection) (.type "BaseException") = some true) (e5_BadDirection : PySem.W.typeIn K (.ref C_BadDirection) = some (.type "type")) (q1_BadDirection : (PySem.W.clsIn K C_BadDirection).isSome = true) (x1_BadDirection : PySem.W.excInitIn K C_BadDirection exT "Exception.__new__" = true) (x2_BadDirection : PySem.W.excOver K C_BadDirection exT = true) (x3_BadDirection : PySem.W.takerIn K C_BadDirection "thing" = some none) (x4_BadDirection : PySem.W.findIn K (.ref C_BadDirection) "thing" = some none) (x5_BadDirection : PySem.W.findIn K (.ref C_BadDirection) "__setattr__" = some (some (.builtin "object.__setattr__"))) (x6_BadDirection : PySem.W.findIn K (.ref C_BadDirection) "__init__" = some (some (.ref fI_BadDirection))) (x7_BadDirection : PySem.W.typeIn K (.ref fI_BadDirection) = some (.type "function")) (e3_BadDirection : PySem.W.keepIn K (.ref C_BadDirection) = true) (x9_BadDirection : PySem.W.hasDictIn K C_BadDirection = true) (y1_BadDirection : K.lookup fI_BadDirection = some ⟨oc_BadDirection, od_BadDirection, .func (PySem.W.fnOf "__init__" "BadDirection.__init__" (defArgs (initS 5)) (defBody (initS 5)) (defScope (initS 5)) .none kV_BadDirection dc_BadDirection pm_BadDirection an_BadDirection cd_BadDirection ct_BadDirection), sl_BadDirection⟩) (y2_BadDirection : PySem.W.codeIn K cd_BadDirection "BadDirection.__init__" = true) (y3_BadDirection : PySem.W.keepIn K (.ref fI_BadDirection) = true) (g1_BadDirection : PySem.W.findIn K (.ref C_BadDirection) "__getattribute__" = some (some (.builtin "BaseException.__getattribute__"))) (g2_BadDirection : PySem.W.findIn K (.ref C_BadDirection) "__getattr__" = some none) (g3_BadDirection : PySem.W.findIn K (.ref C_BadDirection) "__class__" = some (some (.builtin "object.__class__"))) (g4_BadDirection : PySem.W.mroIn K C_BadDirection (.type "object") = some true) (e1_BadNumber : PySem.W.nsIn K mainGlobals "BadNumber" = some (some (.ref C_BadNumber))) (e4_BadNumber : PySem.W.subIn K (.ref C_BadNumber) (.type "BaseException") = some true) (e5_BadNumber : PySem.W.typeIn K (.ref C_BadNumber) = some (.type "type")) (x1_BadNumber : PySem.W.excInitIn K C_BadNumber exT "Exception.__new__" = true) (x2_BadNumber : PySem.W.excOver K C_BadNumber exT = true) (x3_BadNumber : PySem.W.takerIn K C_BadNumber "thing" = some none) (x4_BadNumber : PySem.W.findIn K (.ref C_BadNumber) "thing" = some none) (x5_BadNumber : PySem.W.findIn K (.ref C_BadNumber) "__setattr__" = some (some (.builtin "object.__setattr__"))) (x6_BadNumber : PySem.W.findIn K (.ref C_BadNumber) "__init__" = some (some (.ref fI_BadNumber))) (x7_BadNumber : PySem.W.typeIn K (.ref fI_BadNumber) = some (.type "function")) (e3_BadNumber : PySem.W.keepIn K (.ref C_BadNumber) = true) (x9_BadNumber : PySem.W.hasDictIn K C_BadNumber = true) (y1_BadNumber : K.lookup fI_BadNumber = some ⟨oc_BadNumber, od_BadNumber, .func (PySem.W.fnOf "__init__" "BadNumber.__init__" (defArgs (initS 3)) (defBody (initS 3)) (defScope (initS 3)) .none kV_BadNumber dc_BadNumber pm_BadNumber an_BadNumber cd_BadNumber ct_BadNumber), sl_BadNumber⟩) (y2_BadNumber : PySem.W.codeIn K cd_BadNumber "BadNumber.__init__" = true) (y3_BadNumber : PySem.W.keepIn K (.ref fI_BadNumber) = true) (g1_BadNumber : PySem.W.findIn K (.ref C_BadNumber) "__getattribute__" = some (some (.builtin "BaseException.__getattribute__"))) (g2_BadNumber : PySem.W.findIn K (.ref C_BadNumber) "__getattr__" = some none) (g3_BadNumber : PySem.W.findIn K (.ref C_BadNumber) "__class__" = some (some (.builtin "object.__class__"))) (g4_BadNumber : PySem.W.mroIn K C_BadNumber (.type "object") = some true) (e1_BadSide : PySem.W.nsIn K mainGlobals "BadSide" = some (some (.ref C_BadSide))) (e4_BadSide : PySem.W.subIn K (.ref C_BadSide) (.type "BaseException") = some true) (e5_BadSide : PySem.W.typeIn K (.ref C_BadSide) = some (.type "type")) (x1_BadSide : PySem.W.excInitIn K C_BadSide exT "Exception.__new__" = true) (x2_BadSide : PySem.W.excOver K C_BadSide exT = true) (x3_BadSide : PySem.W.takerIn K C_BadSide "thing" = some none) (x4_BadSide : PySem.W.findIn K (.ref C_BadSide) "thing" = some none) (x5_BadSide : PySem.W.findIn K (.ref C_BadSide) "__setattr__" = some (some (.builtin "object.__setattr__"))) (x6_BadSide : PySem.W.findIn K (.ref C_BadSide) "__init__" = some (some (.ref fI_BadSide))) (x7_BadSide : PySem.W.typeIn K (.ref fI_BadSide) = some (.type "function")) (e3_BadSide : PySem.W.keepIn K (.ref C_BadSide) = true) (x9_BadSide : PySem.W.hasDictIn K C_BadSide = true) (y1_BadSide : K.lookup fI_BadSide = some ⟨oc_BadSide, od_BadSide, .func (PySem.W.fnOf "__init__" "BadSide.__init__" (defArgs (initS 6)) (defBody (initS 6)) (defScope (initS 6)) .none kV_BadSide dc_BadSide pm_BadSide an_BadSide cd_BadSide ct_BadSide), sl_BadSide⟩) (y2_BadSide : PySem.W.codeIn K cd_BadSide "BadSide.__init__" = true) (y3_BadSide : PySem.W.keepIn K (.ref fI_BadSide) = true) (g1_BadSide : PySem.W.findIn K (.ref C_BadSide) "__getattribute__" = some (some (.builtin "BaseException.__getattribute__"))) (g2_BadSide : PySem.W.findIn K (.ref C_BadSide) "__getattr__" = some none) (g3_BadSide : PySem.W.findIn K (.ref C_BadSide) "__class__" = some (some (.builtin "object.__class__"))) (g4_BadSide : PySem.W.mroIn K C_BadSide (.type "object") = some true) (e1_NoSuchSide : PySem.W.nsIn K mainGlobals "NoSuchSide" = some (some (.ref C_NoSuchSide))) (e4_NoSuchSide : PySem.W.subIn K (.ref C_NoSuchSide) (.type "BaseException") = some true) (e5_NoSuchSide : PySem.W.typeIn K (.ref C_NoSuchSide) = some (.type "type")) (q1_NoSuchSide : (PySem.W.clsIn K C_NoSuchSide).isSome = true) (x1_NoSuchSide : PySem.W.excInitIn K C_NoSuchSide exT "Exception.__new__" = true) (x2_NoSuchSide : PySem.W.excOver K C_NoSuchSide exT = true) (x3_NoSuchSide : PySem.W.takerIn K C_NoSuchSide "thing" = some none) (x4_NoSuchSide : PySem.W.findIn K (.ref C_NoSuchSide) "thing" = some none) (x5_NoSuchSide : PySem.W.findIn K (.ref C_NoSuchSide) "__setattr__" = some (some (.builtin "object.__setattr__"))) (x6_NoSuchSide : PySem.W.findIn K (.ref C_NoSuchSide) "__init__" = some (some (.ref fI_NoSuchSide))) (x7_NoSuchSide : PySem.W.typeIn K (.ref fI_NoSuchSide) = some (.type "function")) (e3_NoSuchSide : PySem.W.keepIn K (.ref C_NoSuchSide) = true) (x9_NoSuchSide : PySem.W.hasDictIn K C_NoSuchSide = true) (y1_NoSuchSide : K.lookup fI_NoSuchSide = some ⟨oc_NoSuchSide, od_NoSuchSide, .func (PySem.W.fnOf "__init__" "NoSuchSide.__init__" (defArgs (initS 8)) (defBody (initS 8)) (defScope (initS 8)) .none kV_NoSuchSide dc_NoSuchSide pm_NoSuchSide an_NoSuchSide cd_NoSuchSide ct_NoSuchSide), sl_NoSuchSide⟩) (y2_NoSuchSide : PySem.W.codeIn K cd_NoSuchSide "NoSuchSide.__init__" = true) (y3_NoSuchSide : PySem.W.keepIn K (.ref fI_NoSuchSide) = true) (g1_NoSuchSide : PySem.W.findIn K (.ref C_NoSuchSide) "__getattribute__" = some (some (.builtin "BaseException.__getattribute__"))) (g2_NoSuchSide : PySem.W.findIn K (.ref C_NoSuchSide) "__getattr__" = some none) (g3_NoSuchSide : PySem.W.findIn K (.ref C_NoSuchSide) "__class__" = some (some (.builtin "object.__class__"))) (g4_NoSuchSide : PySem.W.mroIn K C_NoSuchSide (.type "object") = some true) (e1_NoWorm : PySem.W.nsIn K mainGlobals "NoWorm" = some (some (.ref C_NoWorm))) (e4_NoWorm : PySem.W.subIn K (.ref C_NoWorm) (.type "BaseException") = some true) (e5_NoWorm : PySem.W.typeIn K (.ref C_NoWorm) = some (.type "type")) (q1_NoWorm : (PySem.W.clsIn K C_NoWorm).isSome = true) (x1_NoWorm : PySem.W.excInitIn K C_NoWorm exT "Exception.__new__" = true) (x2_NoWorm : PySem.W.excOver K C_NoWorm exT = true) (x3_NoWorm : PySem.W.takerIn K C_NoWorm "direction" = some none) (x4_NoWorm : PySem.W.findIn K (.ref C_NoWorm) "direction" = some none) (x5_NoWorm : PySem.W.findIn K (.ref C_NoWorm) "__setattr__" = some (some (.builtin "object.__setattr__"))) (x6_NoWorm : PySem.W.findIn K (.ref C_NoWorm) "__init__" = some (some (.ref fI_NoWorm))) (x7_NoWorm : PySem.W.typeIn K (.ref fI_NoWorm) = some (.type "function")) (e3_NoWorm : PySem.W.keepIn K (.ref C_NoWorm) = true) (x9_NoWorm : PySem.W.hasDictIn K C_NoWorm = true) (y1_NoWorm : K.lookup fI_NoWorm = some ⟨oc_NoWorm, od_NoWorm, .func (PySem.W.fnOf "__init__" "NoWorm.__init__" (defArgs (initS 7)) (defBody (initS 7)) (defScope (initS 7)) .none kV_NoWorm dc_NoWorm pm_NoWorm an_NoWorm cd_NoWorm ct_NoWorm), sl_NoWorm⟩) (y2_NoWorm : PySem.W.codeIn K cd_NoWorm "NoWorm.__init__" = true) (y3_NoWorm : PySem.W.keepIn K (.ref fI_NoWorm) = true) (g1_NoWorm : PySem.W.findIn K (.ref C_NoWorm) "__getattribute__" = some (some (.builtin "BaseException.__getattribute__"))) (g2_NoWorm : PySem.W.findIn K (.ref C_NoWorm) "__getattr__" = some none) (g3_NoWorm : PySem.W.findIn K (.ref C_NoWorm) "__class__" = some (some (.builtin "object.__class__"))) (g4_NoWorm : PySem.W.mroIn K C_NoWorm (.type "object") = some true) (r_BadDirection_BadDirection : PySem.W.subIn K (.ref C_BadDirection) (.ref C_BadDirection) = some true) (r_BadDirection_NoSuchSide : PySem.W.subIn K (.ref C_BadDirection) (.ref C_NoSuchSide) = some false) (r_BadDirection_NoWorm : PySem.W.subIn K (.ref C_BadDirection) (.ref C_NoWorm) = some false) (r_BadNumber_BadDirection : PySem.W.subIn K (.ref C_BadNumber) (.ref C_BadDirection) = some false) (r_BadNumber_NoSuchSide : PySem.W.subIn K (.ref C_BadNumber) (.ref C_NoSuchSide) = some false) (r_BadNumber_NoWorm : PySem.W.subIn K (.ref C_BadNumber) (.ref C_NoWorm) = some false) (r_BadSide_BadDirection : PySem.W.subIn K (.ref C_BadSide) (.ref C_BadDirection) = some false) (r_BadSide_NoSuchSide : PySem.W.subIn K (.ref C_BadSide) (.ref C_NoSuchSide) = some false) (r_BadSide_NoWorm : PySem.W.subIn K (.ref C_BadSide) (.ref C_NoWorm) = some false) (r_NoSuchSide_BadDirection : PySem.W.subIn K (.ref C_NoSuchSide) (.ref C_BadDirection) = some false) (r_NoSuchSide_NoSuchSide : PySem.W.subIn K (.ref C_NoSuchSide) (.ref C_NoSuchSide) = some true) (r_NoSuchSide_NoWorm : PySem.W.subIn K (.ref C_NoSuchSide) (.ref C_NoWorm) = some false) (r_NoWorm_BadDirection : PySem.W.subIn K (.ref C_NoWorm) (.ref C_BadDirection) = some false) (r_NoWorm_NoSuchSide : PySem.W.subIn K (.ref C_NoWorm) (.ref C_NoSuchSide) = some false) (r_NoWorm_NoWorm : PySem.W.subIn K (.ref C_NoWorm) (.ref C_NoWorm) = some true) (d1 : PySem.W.nsOkIn K cStatics = true) (d2 : PySem.W.nsIn K cStatics "sys.int_max_str_digits" = some none) (G_FIRST_SIDE : PySem.W.nsIn K mainGlobals "FIRST_SIDE" = some (some (.ref Ty1))) (Fy1 : K.lookup Ty1 = some ⟨.type "tuple", Dy1, .seq #[(.int 1 y2), (.int (-1) y3), (.int 1 y4), (.int 1 y5), (.int (-1) y6)] Ny1, Sy1⟩) (G_NO_SIDE : PySem.W.nsIn K mainGlobals "NO_SIDE" = some (some (.ref Ty7))) (Fy7 : K.lookup Ty7 = some ⟨.type "tuple", Dy7, .seq #[(.int 0 y8), (.int 0 y9), (.int 0 y10), (.int 0 y11), (.int 0 y12)] Ny7, Sy7⟩) (gn : PySem.W.specialIn K (.builtin "object.__class__") "__get__" = some (some (.builtin "getset_descriptor.__get__"))) (gt : PySem.W.takesIn K (.builtin "object.__class__") = some true) (o1_Floor : PySem.W.nsIn K mainGlobals "Floor" = some (some (.ref C_Floor))) (o2_Floor : PySem.W.plainGet K C_Floor Str.empty = true) (o3_Floor : PySem.W.hasDictIn K C_Floor = true) (o4_Floor : PySem.W.plainOver K C_Floor = true) (o5_Floor : PySem.W.findIn K (.ref C_Floor) "__setattr__" = some (some (.builtin "object.__setattr__"))) (o6_Floor : PySem.W.findIn K (.ref C_Floor) "__class__" = some (some (.builtin "object.__class__"))) (o7_Floor : PySem.W.mroIn K C_Floor (.type "object") = some true) (of_Floor_all_keys : PySem.W.findIn K (.ref C_Floor) "all_keys" = some none) (of_Floor_side : PySem.W.findIn K (.ref C_Floor) "side" = some none) (ob_Floor_NoneType : PySem.W.kitOne K (.type "NoneType") (.ref C_Floor) = some false) (ot_Floor_NoneType : PySem.W.kitOne K (.ref C_Floor) (.type "NoneType") = some false) (os_Floor_NoneType : PySem.W.subIn K (.type "NoneType") (.ref C_Floor) = some false) (ob_Floor_bool : PySem.W.kitOne K (.type "bool") (.ref C_Floor) = some false) (ot_Floor_bool : PySem.W.kitOne K (.ref C_Floor) (.type "bool") = some false) (os_Floor_bool : PySem.W.subIn K (.type "bool") (.ref C_Floor) = some false) (ob_Floor_int : PySem.W.kitOne K (.type "int") (.ref C_Floor) = some false) (ot_Floor_int : PySem.W.kitOne K (.ref C_Floor) (.type "int") = some false) (os_Floor_int : PySem.W.subIn K (.type "int") (.ref C_Floor) = some false) (ob_Floor_str : PySem.W.kitOne K (.type "str") (.ref C_Floor) = some false) (ot_Floor_str : PySem.W.kitOne K (.ref C_Floor) (.type "str") = some false) (os_Floor_str : PySem.W.subIn K (.type "str") (.ref C_Floor) = some false) (ob_Floor_tuple : PySem.W.kitOne K (.type "tuple") (.ref C_Floor) = some false) (ot_Floor_tuple : PySem.W.kitOne K (.ref C_Floor) (.type "tuple") = some false) (os_Floor_tuple : PySem.W.subIn K (.type "tuple") (.ref C_Floor) = some false) (ob_Floor_list : PySem.W.kitOne K (.type "list") (.ref C_Floor) = some false) (ot_Floor_list : PySem.W.kitOne K (.ref C_Floor) (.type "list") = some false) (os_Floor_list : PySem.W.subIn K (.type "list") (.ref C_Floor) = some false) (ob_Floor_dict : PySem.W.kitOne K (.type "dict") (.ref C_Floor) = some false) (ot_Floor_dict : PySem.W.kitOne K (.ref C_Floor) (.type "dict") = some false) (os_Floor_dict : PySem.W.subIn K (.type "dict") (.ref C_Floor) = some false) (oo_Floor : PySem.W.kitOne K (.ref C_Floor) (.ref C_Floor) = some true) (m1_Floor : PySem.W.makesIn K C_Floor = true) (m2_Floor : PySem.W.findIn K (.ref C_Floor) "__init__" = some (some (.ref fI_Floor))) (m3_Floor : PySem.W.isFn K (.ref fI_Floor) = true) (m4_Floor : PySem.W.keepIn K (.ref C_Floor) = true) (lI_Floor : K.lookup fI_Floor = some ⟨ocI_Floor, odI_Floor, .func (PySem.W.fnOf "__init__" "Floor.__init__" (defArgs (methS 35 0)) (defBody (methS 35 0)) (defScope (methS 35 0)) (.ref DI_Floor) kVI_Floor dcI_Floor pmI_Floor anI_Floor cdI_Floor ctI_Floor), slI_Floor⟩) (cI_Floor : PySem.W.codeIn K cdI_Floor "Floor.__init__" = true) (kI_Floor : PySem.W.keepIn K (.ref fI_Floor) = true) (ddI_Floor : K.lookup DI_Floor = some ⟨DCI_Floor, DDI_Floor, .seq #[(.ref Ty13)] DNI_Floor, DSI_Floor⟩) (Fy13 : K.lookup Ty13 = some ⟨.type "tuple", Dy13, .seq #[(.int 0 y14), (.int 0 y15), (.int 0 y16), (.int 0 y17), (.int 0 y18)] Ny13, Sy13⟩) (q2_Floor : PySem.W.findIn K (.ref C_Floor) "__eq__" = some (some (.ref fE_Floor))) (q3_Floor : PySem.W.isFn K (.ref fE_Floor) = true) (lE_Floor : K.lookup fE_Floor = some ⟨ocE_Floor, odE_Floor, .func (PySem.W.fnOf "__eq__" "Floor.__eq__" (defArgs (methS 35 1)) (defBody (methS 35 1)) (defScope (methS 35 1)) .none kVE_Floor dcE_Floor pmE_Floor anE_Floor cdE_Floor ctE_Floor), slE_Floor⟩) (cE_Floor : PySem.W.codeIn K cdE_Floor "Floor.__eq__" = true) (kE_Floor : PySem.W.keepIn K (.ref fE_Floor) = true) :
    ∃ fd : FuncData, (∀ (s : Shared) (u : Value), BindsTo s fd ⟨[u], []⟩ [("_law_script", u)]) ∧ ∀ base : Heap, K.In base → base.Ns mainGlobals mg → FnG l.prog w K mg base 11 fa fd ["_law_script"] (spLaw K []) := by
  have e := hfa.symm.trans (PySem.W.mg_of X G a70)
  cases e
  have bt : Bt mg := ⟨PySem.W.mg_none_of X G z_all, PySem.W.mg_none_of X G z_bool, PySem.W.mg_none_of X G z_enumerate, PySem.W.mg_none_of X G z_int, PySem.W.mg_none_of X G z_isinstance, PySem.W.mg_none_of X G z_len, PySem.W.mg_none_of X G z_list, PySem.W.mg_none_of X G z_max, PySem.W.mg_none_of X G z_range, PySem.W.mg_none_of X G z_repr, PySem.W.mg_none_of X G z_sorted, PySem.W.mg_none_of X G z_tuple, PySem.W.mg_none_of X G z_zip, PySem.W.mg_of X G z_gcd⟩
  have m_BadDirection : mg "BadDirection" = some (.ref C_BadDirection) := PySem.W.mg_of X G e1_BadDirection
  have m_BadNumber : mg "BadNumber" = some (.ref C_BadNumber) := PySem.W.mg_of X G e1_BadNumber
  have m_BadSide : mg "BadSide" = some (.ref C_BadSide) := PySem.W.mg_of X G e1_BadSide
  have m_NoSuchSide : mg "NoSuchSide" = some (.ref C_NoSuchSide) := PySem.W.mg_of X G e1_NoSuchSide
  have m_NoWorm : mg "NoWorm" = some (.ref C_NoWorm) := PySem.W.mg_of X G e1_NoWorm
  have T_BadDirection : ErC K mg "BadDirection" "thing" C_BadDirection fI_BadDirection := ⟨m_BadDirection, x1_BadDirection, x2_BadDirection, x3_BadDirection, x4_BadDirection, x5_BadDirection, x6_BadDirection, x7_BadDirection, e3_BadDirection, e4_BadDirection, e5_BadDirection, x9_BadDirection⟩
  have N_BadDirection := in_BadDirection (fun_mk (x := "__init__") (st := initS 5) y1_BadDirection y2_BadDirection y3_BadDirection)
  have T_BadNumber : ErC K mg "BadNumber" "thing" C_BadNumber fI_BadNumber := ⟨m_BadNumber, x1_BadNumber, x2_BadNumber, x3_BadNumber, x4_BadNumber, x5_BadNumber, x6_BadNumber, x7_BadNumber, e3_BadNumber, e4_BadNumber, e5_BadNumber, x9_BadNumber⟩
  have N_BadNumber := in_BadNumber (fun_mk (x := "__init__") (st := initS 3) y1_BadNumber y2_BadNumber y3_BadNumber)
  have T_BadSide : ErC K mg "BadSide" "thing" C_BadSide fI_BadSide := ⟨m_BadSide, x1_BadSide, x2_BadSide, x3_BadSide, x4_BadSide, x5_BadSide, x6_BadSide, x7_BadSide, e3_BadSide, e4_BadSide, e5_BadSide, x9_BadSide⟩
  have N_BadSide := in_BadSide (fun_mk (x := "__init__") (st := initS 6) y1_BadSide y2_BadSide y3_BadSide)
  have T_NoSuchSide : ErC K mg "NoSuchSide" "thing" C_NoSuchSide fI_NoSuchSide := ⟨m_NoSuchSide, x1_NoSuchSide, x2_NoSuchSide, x3_NoSuchSide, x4_NoSuchSide, x5_NoSuchSide, x6_NoSuchSide, x7_NoSuchSide, e3_NoSuchSide, e4_NoSuchSide, e5_NoSuchSide, x9_NoSuchSide⟩
  have N_NoSuchSide := in_NoSuchSide (fun_mk (x := "__init__") (st := initS 8) y1_NoSuchSide y2_NoSuchSide y3_NoSuchSide)
  have T_NoWorm : ErC K mg "NoWorm" "direction" C_NoWorm fI_NoWorm := ⟨m_NoWorm, x1_NoWorm, x2_NoWorm, x3_NoWorm, x4_NoWorm, x5_NoWorm, x6_NoWorm, x7_NoWorm, e3_NoWorm, e4_NoWorm, e5_NoWorm, x9_NoWorm⟩
  have N_NoWorm := in_NoWorm (fun_mk (x := "__init__") (st := initS 7) y1_NoWorm y2_NoWorm y3_NoWorm)
  have tab : ClsTab ⟨K, mg⟩ clsM := fun x y b u v h hu hv => by
    have hm := look3_mem h
    simp only [clsML, List.mem_cons, List.not_mem_nil, or_false, Prod.mk.injEq] at hm
    rcases hm with ⟨rfl, rfl, rfl⟩ | ⟨rfl, rfl, rfl⟩ | ⟨rfl, rfl, rfl⟩ | ⟨rfl, rfl, rfl⟩ | ⟨rfl, rfl, rfl⟩ | ⟨rfl, rfl, rfl⟩ | ⟨rfl, rfl, rfl⟩ | ⟨rfl, rfl, rfl⟩ | ⟨rfl, rfl, rfl⟩ | ⟨rfl, rfl, rfl⟩ | ⟨rfl, rfl, rfl⟩ | ⟨rfl, rfl, rfl⟩ | ⟨rfl, rfl, rfl⟩ | ⟨rfl, rfl, rfl⟩ | ⟨rfl, rfl, rfl⟩
    · cases m_BadDirection.symm.trans hu; cases m_BadDirection.symm.trans hv; exact exm_of q1_BadDirection e4_BadDirection e5_BadDirection r_BadDirection_BadDirection
    · cases m_BadDirection.symm.trans hu; cases m_NoSuchSide.symm.trans hv; exact exm_of q1_NoSuchSide e4_NoSuchSide e5_NoSuchSide r_BadDirection_NoSuchSide
    · cases m_BadDirection.symm.trans hu; cases m_NoWorm.symm.trans hv; exact exm_of q1_NoWorm e4_NoWorm e5_NoWorm r_BadDirection_NoWorm
    · cases m_BadNumber.symm.trans hu; cases m_BadDirection.symm.trans hv; exact exm_of q1_BadDirection e4_BadDirection e5_BadDirection r_BadNumber_BadDirection
    · cases m_BadNumber.symm.trans hu; cases m_NoSuchSide.symm.trans hv; exact exm_of q1_NoSuchSide e4_NoSuchSide e5_NoSuchSide r_BadNumber_NoSuchSide
    · cases m_BadNumber.symm.trans hu; cases m_NoWorm.symm.trans hv; exact exm_of q1_NoWorm e4_NoWorm e5_NoWorm r_BadNumber_NoWorm
    · cases m_BadSide.symm.trans hu; cases m_BadDirection.symm.trans hv; exact exm_of q1_BadDirection e4_BadDirection e5_BadDirection r_BadSide_BadDirection
    · cases m_BadSide.symm.trans hu; cases m_NoSuchSide.symm.trans hv; exact exm_of q1_NoSuchSide e4_NoSuchSide e5_NoSuchSide r_BadSide_NoSuchSide
    · cases m_BadSide.symm.trans hu; cases m_NoWorm.symm.trans hv; exact exm_of q1_NoWorm e4_NoWorm e5_NoWorm r_BadSide_NoWorm
    · cases m_NoSuchSide.symm.trans hu; cases m_BadDirection.symm.trans hv; exact exm_of q1_BadDirection e4_BadDirection e5_BadDirection r_NoSuchSide_BadDirection
    · cases m_NoSuchSide.symm.trans hu; cases m_NoSuchSide.symm.trans hv; exact exm_of q1_NoSuchSide e4_NoSuchSide e5_NoSuchSide r_NoSuchSide_NoSuchSide
    · cases m_NoSuchSide.symm.trans hu; cases m_NoWorm.symm.trans hv; exact exm_of q1_NoWorm e4_NoWorm e5_NoWorm r_NoSuchSide_NoWorm
    · cases m_NoWorm.symm.trans hu; cases m_BadDirection.symm.trans hv; exact exm_of q1_BadDirection e4_BadDirection e5_BadDirection r_NoWorm_BadDirection
    · cases m_NoWorm.symm.trans hu; cases m_NoSuchSide.symm.trans hv; exact exm_of q1_NoSuchSide e4_NoSuchSide e5_NoSuchSide r_NoWorm_NoSuchSide
    · cases m_NoWorm.symm.trans hu; cases m_NoWorm.symm.trans hv; exact exm_of q1_NoWorm e4_NoWorm e5_NoWorm r_NoWorm_NoWorm
  have get_direction : GetTab ⟨K, mg⟩ knownE_direction "direction" := fun nm hk => by
    simp only [knownE_direction, Bool.or_eq_true, beq_iff_eq] at hk
    rcases hk with rfl
    · exact ⟨C_NoWorm, m_NoWorm, ⟨g1_NoWorm, g2_NoWorm, e4_NoWorm, x9_NoWorm, x4_NoWorm⟩⟩
  have get_thing : GetTab ⟨K, mg⟩ knownE_thing "thing" := fun nm hk => by
    simp only [knownE_thing, Bool.or_eq_true, beq_iff_eq] at hk
    rcases hk with (((rfl | rfl) | rfl) | rfl)
    · exact ⟨C_BadDirection, m_BadDirection, ⟨g1_BadDirection, g2_BadDirection, e4_BadDirection, x9_BadDirection, x4_BadDirection⟩⟩
    · exact ⟨C_BadNumber, m_BadNumber, ⟨g1_BadNumber, g2_BadNumber, e4_BadNumber, x9_BadNumber, x4_BadNumber⟩⟩
    · exact ⟨C_BadSide, m_BadSide, ⟨g1_BadSide, g2_BadSide, e4_BadSide, x9_BadSide, x4_BadSide⟩⟩
    · exact ⟨C_NoSuchSide, m_NoSuchSide, ⟨g1_NoSuchSide, g2_NoSuchSide, e4_NoSuchSide, x9_NoSuchSide, x4_NoSuchSide⟩⟩
  have m_Floor : mg "Floor" = some (.ref C_Floor) := PySem.W.mg_of X G o1_Floor
  have cl_Floor : Cls K C_Floor := ⟨o2_Floor, o3_Floor, o4_Floor, o5_Floor⟩
  have O_Floor : ObC ⟨K, mg⟩ "Floor" C_Floor := ⟨m_Floor, cl_Floor, o6_Floor, gn, gt, o7_Floor⟩
  have obt : ObTab ⟨K, mg⟩ knownO := obtab_one O_Floor (fun t ht => by
    simp only [tyL, List.mem_cons, List.not_mem_nil, or_false] at ht
    rcases ht with rfl | rfl | rfl | rfl | rfl | rfl | rfl
    · exact ob_Floor_NoneType
    · exact ob_Floor_bool
    · exact ob_Floor_int
    · exact ob_Floor_str
    · exact ob_Floor_tuple
    · exact ob_Floor_list
    · exact ob_Floor_dict) (fun t ht => by
    simp only [tyL, List.mem_cons, List.not_mem_nil, or_false] at ht
    rcases ht with rfl | rfl | rfl | rfl | rfl | rfl | rfl
    · exact ot_Floor_NoneType
    · exact ot_Floor_bool
    · exact ot_Floor_int
    · exact ot_Floor_str
    · exact ot_Floor_tuple
    · exact ot_Floor_list
    · exact ot_Floor_dict) oo_Floor (fun t ht => by
    simp only [tyL, List.mem_cons, List.not_mem_nil, or_false] at ht
    rcases ht with rfl | rfl | rfl | rfl | rfl | rfl | rfl
    · exact os_Floor_NoneType
    · exact os_Floor_bool
    · exact os_Floor_int
    · exact os_Floor_str
    · exact os_Floor_tuple
    · exact os_Floor_list
    · exact os_Floor_dict)
  have fldt : FldTab ⟨K, mg⟩ fldO := fun n f h => by
    simp only [fldO, Bool.or_eq_true, Bool.and_eq_true, beq_iff_eq] at h
    rcases h with (⟨rfl, rfl⟩ | ⟨rfl, rfl⟩)
    · exact ⟨C_Floor, m_Floor, cl_Floor, of_Floor_all_keys⟩
    · exact ⟨C_Floor, m_Floor, cl_Floor, of_Floor_side⟩
  have gl_FIRST_SIDE : GlobC ⟨K, mg⟩ "FIRST_SIDE" (.tup [.int 1, .int (-1), .int 1, .int 1, .int (-1)]) := ⟨(.ref Ty1), (.ref Ty1), PySem.W.mg_of X G G_FIRST_SIDE, (show RelV (.ref Ty1) (.ref Ty1) from rfl), fun F => rep_ktup (K := ⟨K, mg⟩) Fy1 (show (5 : Nat) ≤ sizeLine by decide) (.cons (relv_int 1 y2) (.cons (relv_int (-1) y3) (.cons (relv_int 1 y4) (.cons (relv_int 1 y5) (.cons (relv_int (-1) y6) .nil))))) (fun F => (.cons (.int _) (.cons (.int _) (.cons (.int _) (.cons (.int _) (.cons (.int _) .nil)))))) F⟩
  have gl_NO_SIDE : GlobC ⟨K, mg⟩ "NO_SIDE" (.tup [.int 0, .int 0, .int 0, .int 0, .int 0]) := ⟨(.ref Ty7), (.ref Ty7), PySem.W.mg_of X G G_NO_SIDE, (show RelV (.ref Ty7) (.ref Ty7) from rfl), fun F => rep_ktup (K := ⟨K, mg⟩) Fy7 (show (5 : Nat) ≤ sizeLine by decide) (.cons (relv_int 0 y8) (.cons (relv_int 0 y9) (.cons (relv_int 0 y10) (.cons (relv_int 0 y11) (.cons (relv_int 0 y12) .nil))))) (fun F => (.cons (.int _) (.cons (.int _) (.cons (.int _) (.cons (.int _) (.cons (.int _) .nil)))))) F⟩
  have ct : Ct K mg := ⟨⟨C_BadDirection, fI_BadDirection, T_BadDirection, N_BadDirection⟩, ⟨C_BadNumber, fI_BadNumber, T_BadNumber, N_BadNumber⟩, ⟨C_BadSide, fI_BadSide, T_BadSide, N_BadSide⟩, ⟨C_NoSuchSide, fI_NoSuchSide, T_NoSuchSide, N_NoSuchSide⟩, ⟨C_NoWorm, fI_NoWorm, T_NoWorm, N_NoWorm⟩, ⟨C_BadDirection, m_BadDirection⟩, ⟨C_NoSuchSide, m_NoSuchSide⟩, ⟨C_NoWorm, m_NoWorm⟩, tab, get_direction, get_thing, ⟨d1, d2⟩, obt, fldt, gl_FIRST_SIDE, gl_NO_SIDE⟩
  have F10 := fun_mk (st := top 10) l10 c10 k10
  have F11 := fun_mk (st := top 11) l11 c11 k11
  have F12 := fun_mk (st := top 12) l12 c12 k12
  have F13 := fun_mk (st := top 13) l13 c13 k13
  have F14 := fun_mk (st := top 14) l14 c14 k14
  have F15 := fun_mk (st := top 15) l15 c15 k15
  have F16 := fun_mk (st := top 16) l16 c16 k16
  have F17 := fun_mk (st := top 17) l17 c17 k17
  have F19 := fun_mk (st := top 19) l19 c19 k19
  have F31 := fun_mk (st := top 31) l31 c31 k31
  have F32 := fun_mk (st := top 32) l32 c32 k32
  have F33 := fun_mk (st := top 33) l33 c33 k33
  have F34 := fun_mk (st := top 34) l34 c34 k34
  have F38 := fun_mk (st := top 38) l38 c38 k38
  have F40 := fun_mk (st := top 40) l40 c40 k40
  have F41 := fun_mk (st := top 41) l41 c41 k41
  have F42 := fun_mk (st := top 42) l42 c42 k42
  have F43 := fun_mk (st := top 43) l43 c43 k43
  have F44 := fun_mk (st := top 44) l44 c44 k44
  have F45 := fun_mk (st := top 45) l45 c45 k45
  have F46 := fun_mk (st := top 46) l46 c46 k46
  have F47 := fun_mk (st := top 47) l47 c47 k47
  have F48 := fun_mk (st := top 48) l48 c48 k48
  have F50 := fun_mk (st := top 50) l50 c50 k50
  have F51 := fun_mk (st := top 51) l51 c51 k51
  have F52 := fun_mk (st := top 52) l52 c52 k52
  have F53 := fun_mk (st := top 53) l53 c53 k53
  have F54 := fun_mk (st := top 54) l54 c54 k54
  have F55 := fun_mk (st := top 55) l55 c55 k55
  have F56 := fun_mk (st := top 56) l56 c56 k56
  have F57 := fun_mk (st := top 57) l57 c57 k57
  have F58 := fun_mk (st := top 58) l58 c58 k58
  have F59 := fun_mk (st := top 59) l59 c59 k59
  have F60 := fun_mk (st := top 60) l60 c60 k60
  have F61 := fun_mk (st := top 61) l61 c61 k61
  have F62 := fun_mk (st := top 62) l62 c62 k62
  have F63 := fun_mk (st := top 63) l63 c63 k63
  have F64 := fun_mk (st := top 64) l64 c64 k64
  have F65 := fun_mk (st := top 65) l65 c65 k65
  have F66 := fun_mk (st := top 66) l66 c66 k66
  have F67 := fun_mk (st := top 67) l67 c67 k67
  have F68 := fun_mk (st := top 68) l68 c68 k68
  have F69 := fun_mk (st := top 69) l69 c69 k69
  have F70 := fun_mk (st := top 70) l70 c70 k70
  refine ⟨PySem.W.fnOf "law" "law" (defArgs (top 70)) (defBody (top 70)) (defScope (top 70)) .none kV70 dc70 pm70 an70 cd70 ct70, fun s v => .of_eq rfl, fun base _ _ => ?_⟩
  have O__law_draw := ok__law_draw (P := l.prog) (w := w) (base := base) (T := []) bt (PySem.W.mg_of X G a51) F51
  have O_is_integer := ok_is_integer (P := l.prog) (w := w) (base := base) (T := []) bt ct (PySem.W.mg_of X G a10) F10 
  have O_normal := ok_normal (P := l.prog) (w := w) (base := base) (T := []) bt ct (PySem.W.mg_of X G a12) F12 
  have O_negative := ok_negative (P := l.prog) (w := w) (base := base) (T := []) bt ct (PySem.W.mg_of X G a13) F13 
  have O_times_g := ok_times_g (P := l.prog) (w := w) (base := base) (T := []) bt ct (PySem.W.mg_of X G a16) F16 
  have O_is_whole_number := ok_is_whole_number (P := l.prog) (w := w) (base := base) (T := []) bt ct (PySem.W.mg_of X G a17) F17 
  have O_Floor__eq := ok_Floor__eq (P := l.prog) (w := w) (base := base) (T := []) bt ct m_Floor q2_Floor q3_Floor (fun_mk (x := "__eq__") (st := (methS 35 1)) lE_Floor cE_Floor kE_Floor) 
  have O_changed_side := ok_changed_side (P := l.prog) (w := w) (base := base) (T := []) bt ct (PySem.W.mg_of X G a40) F40 
  have O_unlike_signs := ok_unlike_signs (P := l.prog) (w := w) (base := base) (T := []) bt ct (PySem.W.mg_of X G a46) F46 
  have O__law_keys := ok__law_keys (P := l.prog) (w := w) (base := base) (T := []) bt ct (PySem.W.mg_of X G a54) F54 
  have O__law_whole := ok__law_whole (P := l.prog) (w := w) (base := base) (T := []) bt ct (PySem.W.mg_of X G a55) F55 
  have O__law_same := ok__law_same (P := l.prog) (w := w) (base := base) (T := []) bt ct (PySem.W.mg_of X G a59) F59 
  have O__law_changed := ok__law_changed (P := l.prog) (w := w) (base := base) (T := []) bt ct (PySem.W.mg_of X G a60) F60 
  have O__law_moved := ok__law_moved (P := l.prog) (w := w) (base := base) (T := []) bt ct (PySem.W.mg_of X G a63) F63 
  have O_is_number := ok_is_number (P := l.prog) (w := w) (base := base) (T := []) bt ct (PySem.W.mg_of X G a11) F11 O_is_integer
  have O_added := ok_added (P := l.prog) (w := w) (base := base) (T := []) bt ct (PySem.W.mg_of X G a14) F14 O_normal
  have O_is_direction := ok_is_direction (P := l.prog) (w := w) (base := base) (T := []) bt ct (PySem.W.mg_of X G a19) F19 O_is_integer
  have O_whole_directions := ok_whole_directions (P := l.prog) (w := w) (base := base) (T := []) bt ct (PySem.W.mg_of X G a32) F32 O_is_whole_number
  have O__law_pick := ok__law_pick (P := l.prog) (w := w) (base := base) (T := []) bt ct (PySem.W.mg_of X G a52) F52 O__law_draw
  have O__law_number := ok__law_number (P := l.prog) (w := w) (base := base) (T := []) bt ct (PySem.W.mg_of X G a53) F53 O__law_draw
  have O__law_sides := ok__law_sides (P := l.prog) (w := w) (base := base) (T := []) bt ct (PySem.W.mg_of X G a56) F56 O__law_whole
  have O__law_turns := ok__law_turns (P := l.prog) (w := w) (base := base) (T := []) bt ct (PySem.W.mg_of X G a66) F66 O__law_changed
  have O_taken := ok_taken (P := l.prog) (w := w) (base := base) (T := []) bt ct (PySem.W.mg_of X G a15) F15 O_added O_negative
  have O_sides_of := ok_sides_of (P := l.prog) (w := w) (base := base) (T := []) bt ct (PySem.W.mg_of X G a33) F33 O_whole_directions
  have O_whole_keys := ok_whole_keys (P := l.prog) (w := w) (base := base) (T := []) bt ct (PySem.W.mg_of X G a38) F38 O_whole_directions
  have O__law_world := ok__law_world (P := l.prog) (w := w) (base := base) (T := []) bt ct (PySem.W.mg_of X G a57) F57 O__law_pick O__law_draw O__law_keys O__law_sides O__law_number
  have O__law_worms := ok__law_worms (P := l.prog) (w := w) (base := base) (T := []) bt ct (PySem.W.mg_of X G a61) F61 O__law_sides O__law_whole O__law_changed
  have O__law_regular := ok__law_regular (P := l.prog) (w := w) (base := base) (T := []) bt ct (PySem.W.mg_of X G a62) F62 O__law_pick O__law_draw O__law_whole O__law_keys O__law_number
  have O_keys_from := ok_keys_from (P := l.prog) (w := w) (base := base) (T := []) bt ct (PySem.W.mg_of X G a31) F31 O_normal O_taken O_negative O_times_g
  have O_is_side := ok_is_side (P := l.prog) (w := w) (base := base) (T := []) bt ct (PySem.W.mg_of X G a34) F34 O_sides_of O_is_integer
  have O_worm_directions := ok_worm_directions (P := l.prog) (w := w) (base := base) (T := []) bt ct (PySem.W.mg_of X G a42) F42 O_sides_of O_whole_keys O_changed_side
  have FI_Floor := fund_mk (K := K) (dvs := [(.ref Ty13)]) lI_Floor cI_Floor kI_Floor (by simp) ddI_Floor rfl (.cons ((show RelV (.ref Ty13) (.ref Ty13) from rfl)) .nil)
  have O_Floor := ok_Floor (P := l.prog) (w := w) (base := base) (T := []) bt ct m_Floor ⟨m1_Floor, m2_Floor, m3_Floor, m4_Floor⟩ FI_Floor (by simp) (fun F => (.cons (rep_ktup (K := ⟨K, mg⟩) Fy13 (show (5 : Nat) ≤ sizeLine by decide) (.cons (relv_int 0 y14) (.cons (relv_int 0 y15) (.cons (relv_int 0 y16) (.cons (relv_int 0 y17) (.cons (relv_int 0 y18) .nil))))) (fun F => (.cons (.int _) (.cons (.int _) (.cons (.int _) (.cons (.int _) (.cons (.int _) .nil)))))) F) .nil)) O_keys_from O_is_side O_is_number
  have O_sides_beside := ok_sides_beside (P := l.prog) (w := w) (base := base) (T := []) bt ct (PySem.W.mg_of X G a43) F43 O_changed_side O_worm_directions
  have O_with_keys := ok_with_keys (P := l.prog) (w := w) (base := base) (T := []) bt ct (PySem.W.mg_of X G a41) F41 O_Floor
  have O__law_floor := ok__law_floor (P := l.prog) (w := w) (base := base) (T := []) bt ct (PySem.W.mg_of X G a58) F58 O__law_pick O_Floor
  have O_turned := ok_turned (P := l.prog) (w := w) (base := base) (T := []) bt ct (PySem.W.mg_of X G a44) F44 O_with_keys O_is_direction O_worm_directions O_changed_side
  have O_with_side := ok_with_side (P := l.prog) (w := w) (base := base) (T := []) bt ct (PySem.W.mg_of X G a45) F45 O_with_keys O_is_side
  have O_turns_between := ok_turns_between (P := l.prog) (w := w) (base := base) (T := []) bt ct (PySem.W.mg_of X G a47) F47 O_turned O_worm_directions O_unlike_signs
  have O_turns_hold := ok_turns_hold (P := l.prog) (w := w) (base := base) (T := []) bt ct (PySem.W.mg_of X G a48) F48 O_turned O_unlike_signs O_worm_directions O_is_direction
  have O__law_turned := ok__law_turned (P := l.prog) (w := w) (base := base) (T := []) bt ct (PySem.W.mg_of X G a64) F64 O_turned
  have O__law_sided := ok__law_sided (P := l.prog) (w := w) (base := base) (T := []) bt ct (PySem.W.mg_of X G a65) F65 O_with_side
  have O__law_is_ring := ok__law_is_ring (P := l.prog) (w := w) (base := base) (T := []) bt ct (PySem.W.mg_of X G a68) F68 O__law_same O_turned O__law_pick O_sides_beside O_Floor__eq
  have O__law_are_turns_right := ok__law_are_turns_right (P := l.prog) (w := w) (base := base) (T := []) bt ct (PySem.W.mg_of X G a67) F67 O__law_turns O_turns_between O_turned O__law_same O__law_pick O__law_draw O_turns_hold O_Floor__eq
  have O__law_is_floor_right := ok__law_is_floor_right (P := l.prog) (w := w) (base := base) (T := []) bt ct (PySem.W.mg_of X G a69) F69 O__law_worms O__law_same O__law_pick O_sides_beside O__law_floor O__law_turned O__law_sided O__law_changed O_Floor__eq
  exact ok_law bt ct (PySem.W.mg_of X G a50) F50 F70 O__law_floor O__law_regular O__law_world O__law_sides O__law_is_floor_right O__law_sided O__law_moved O__law_same O__law_is_ring O__law_draw O__law_are_turns_right O__law_pick O_turns_between O_turns_hold O_Floor__eq
end K62

open PySem PySem.W PyProof.Rows in
set_option maxRecDepth 100000 in
set_option maxHeartbeats 0 in
theorem PySem.Challenge.cw_nevertwice_k62_sides_beside_and_turns_holds : PySem.Challenge.rw_nevertwice_k62_sides_beside_and_turns.Holds := by
  w_on; o_law; k_head; (case hw => w_witness2)
  k_fill
  refine ND.walkG (k := 11) (x := "_law_script") (l := PySem.Challenge.rw_nevertwice_k62_sides_beside_and_turns) rfl rfl ⟨rfl, by decide, by decide⟩ (fun w h Y => PySem.W.kIn_of Y) ?F
  case F =>
    intro w mg fa h KX G hmg
    refine' K62.all_ok KX G hmg ?a10 ?l10 ?c10 ?k10 ?a11 ?l11 ?c11 ?k11 ?a12 ?l12 ?c12 ?k12 ?a13 ?l13 ?c13 ?k13 ?a14 ?l14 ?c14 ?k14 ?a15 ?l15 ?c15 ?k15 ?a16 ?l16 ?c16 ?k16 ?a17 ?l17 ?c17 ?k17 ?a19 ?l19 ?c19 ?k19 ?a31 ?l31 ?c31 ?k31 ?a32 ?l32 ?c32 ?k32 ?a33 ?l33 ?c33 ?k33 ?a34 ?l34 ?c34 ?k34 ?a38 ?l38 ?c38 ?k38 ?a40 ?l40 ?c40 ?k40 ?a41 ?l41 ?c41 ?k41 ?a42 ?l42 ?c42 ?k42 ?a43 ?l43 ?c43 ?k43 ?a44 ?l44 ?c44 ?k44 ?a45 ?l45 ?c45 ?k45 ?a46 ?l46 ?c46 ?k46 ?a47 ?l47 ?c47 ?k47 ?a48 ?l48 ?c48 ?k48 ?a50 ?l50 ?c50 ?k50 ?a51 ?l51 ?c51 ?k51 ?a52 ?l52 ?c52 ?k52 ?a53 ?l53 ?c53 ?k53 ?a54 ?l54 ?c54 ?k54 ?a55 ?l55 ?c55 ?k55 ?a56 ?l56 ?c56 ?k56 ?a57 ?l57 ?c57 ?k57 ?a58 ?l58 ?c58 ?k58 ?a59 ?l59 ?c59 ?k59 ?a60 ?l60 ?c60 ?k60 ?a61 ?l61 ?c61 ?k61 ?a62 ?l62 ?c62 ?k62 ?a63 ?l63 ?c63 ?k63 ?a64 ?l64 ?c64 ?k64 ?a65 ?l65 ?c65 ?k65 ?a66 ?l66 ?c66 ?k66 ?a67 ?l67 ?c67 ?k67 ?a68 ?l68 ?c68 ?k68 ?a69 ?l69 ?c69 ?k69 ?a70 ?l70 ?c70 ?k70 ?z_all ?z_bool ?z_enumerate ?z_int ?z_isinstance ?z_len ?z_list ?z_max ?z_range ?z_repr ?z_sorted ?z_tuple ?z_zip ?z_gcd ?e1_BadDirection ?e4_BadDirection ?e5_BadDirection ?q1_BadDirection ?x1_BadDirection ?x2_BadDirection ?x3_BadDirection ?x4_BadDirection ?x5_BadDirection ?x6_BadDirection ?x7_BadDirection ?e3_BadDirection ?x9_BadDirection ?y1_BadDirection ?y2_BadDirection ?y3_BadDirection ?g1_BadDirection ?g2_BadDirection ?g3_BadDirection ?g4_BadDirection ?e1_BadNumber ?e4_BadNumber ?e5_BadNumber ?x1_BadNumber ?x2_BadNumber ?x3_BadNumber ?x4_BadNumber ?x5_BadNumber ?x6_BadNumber ?x7_BadNumber ?e3_BadNumber ?x9_BadNumber ?y1_BadNumber ?y2_BadNumber ?y3_BadNumber ?g1_BadNumber ?g2_BadNumber ?g3_BadNumber ?g4_BadNumber ?e1_BadSide ?e4_BadSide ?e5_BadSide ?x1_BadSide ?x2_BadSide ?x3_BadSide ?x4_BadSide ?x5_BadSide ?x6_BadSide ?x7_BadSide ?e3_BadSide ?x9_BadSide ?y1_BadSide ?y2_BadSide ?y3_BadSide ?g1_BadSide ?g2_BadSide ?g3_BadSide ?g4_BadSide ?e1_NoSuchSide ?e4_NoSuchSide ?e5_NoSuchSide ?q1_NoSuchSide ?x1_NoSuchSide ?x2_NoSuchSide ?x3_NoSuchSide ?x4_NoSuchSide ?x5_NoSuchSide ?x6_NoSuchSide ?x7_NoSuchSide ?e3_NoSuchSide ?x9_NoSuchSide ?y1_NoSuchSide ?y2_NoSuchSide ?y3_NoSuchSide ?g1_NoSuchSide ?g2_NoSuchSide ?g3_NoSuchSide ?g4_NoSuchSide ?e1_NoWorm ?e4_NoWorm ?e5_NoWorm ?q1_NoWorm ?x1_NoWorm ?x2_NoWorm ?x3_NoWorm ?x4_NoWorm ?x5_NoWorm ?x6_NoWorm ?x7_NoWorm ?e3_NoWorm ?x9_NoWorm ?y1_NoWorm ?y2_NoWorm ?y3_NoWorm ?g1_NoWorm ?g2_NoWorm ?g3_NoWorm ?g4_NoWorm ?r_BadDirection_BadDirection ?r_BadDirection_NoSuchSide ?r_BadDirection_NoWorm ?r_BadNumber_BadDirection ?r_BadNumber_NoSuchSide ?r_BadNumber_NoWorm ?r_BadSide_BadDirection ?r_BadSide_NoSuchSide ?r_BadSide_NoWorm ?r_NoSuchSide_BadDirection ?r_NoSuchSide_NoSuchSide ?r_NoSuchSide_NoWorm ?r_NoWorm_BadDirection ?r_NoWorm_NoSuchSide ?r_NoWorm_NoWorm ?d1 ?d2 ?G_FIRST_SIDE ?Fy1 ?G_NO_SIDE ?Fy7 ?gn ?gt ?o1_Floor ?o2_Floor ?o3_Floor ?o4_Floor ?o5_Floor ?o6_Floor ?o7_Floor ?of_Floor_all_keys ?of_Floor_side ?ob_Floor_NoneType ?ot_Floor_NoneType ?os_Floor_NoneType ?ob_Floor_bool ?ot_Floor_bool ?os_Floor_bool ?ob_Floor_int ?ot_Floor_int ?os_Floor_int ?ob_Floor_str ?ot_Floor_str ?os_Floor_str ?ob_Floor_tuple ?ot_Floor_tuple ?os_Floor_tuple ?ob_Floor_list ?ot_Floor_list ?os_Floor_list ?ob_Floor_dict ?ot_Floor_dict ?os_Floor_dict ?oo_Floor ?m1_Floor ?m2_Floor ?m3_Floor ?m4_Floor ?lI_Floor ?cI_Floor ?kI_Floor ?ddI_Floor ?Fy13 ?q2_Floor ?q3_Floor ?lE_Floor ?cE_Floor ?kE_Floor
    (case a10 => k_is)
    (case l10 => k_is)
    (case c10 => k_is)
    (case k10 => k_is)
    (case a11 => k_is)
    (case l11 => k_is)
    (case c11 => k_is)
    (case k11 => k_is)
    (case a12 => k_is)
    (case l12 => k_is)
    (case c12 => k_is)
    (case k12 => k_is)
    (case a13 => k_is)
    (case l13 => k_is)
    (case c13 => k_is)
    (case k13 => k_is)
    (case a14 => k_is)
    (case l14 => k_is)
    (case c14 => k_is)
    (case k14 => k_is)
    (case a15 => k_is)
    (case l15 => k_is)
    (case c15 => k_is)
    (case k15 => k_is)
    (case a16 => k_is)
    (case l16 => k_is)
    (case c16 => k_is)
    (case k16 => k_is)
    (case a17 => k_is)
    (case l17 => k_is)
    (case c17 => k_is)
    (case k17 => k_is)
    (case a19 => k_is)
    (case l19 => k_is)
    (case c19 => k_is)
    (case k19 => k_is)
    (case a31 => k_is)
    (case l31 => k_is)
    (case c31 => k_is)
    (case k31 => k_is)
    (case a32 => k_is)
    (case l32 => k_is)
    (case c32 => k_is)
    (case k32 => k_is)
    (case a33 => k_is)
    (case l33 => k_is)
    (case c33 => k_is)
    (case k33 => k_is)
    (case a34 => k_is)
    (case l34 => k_is)
    (case c34 => k_is)
    (case k34 => k_is)
    (case a38 => k_is)
    (case l38 => k_is)
    (case c38 => k_is)
    (case k38 => k_is)
    (case a40 => k_is)
    (case l40 => k_is)
    (case c40 => k_is)
    (case k40 => k_is)
    (case a41 => k_is)
    (case l41 => k_is)
    (case c41 => k_is)
    (case k41 => k_is)
    (case a42 => k_is)
    (case l42 => k_is)
    (case c42 => k_is)
    (case k42 => k_is)
    (case a43 => k_is)
    (case l43 => k_is)
    (case c43 => k_is)
    (case k43 => k_is)
    (case a44 => k_is)
    (case l44 => k_is)
    (case c44 => k_is)
    (case k44 => k_is)
    (case a45 => k_is)
    (case l45 => k_is)
    (case c45 => k_is)
    (case k45 => k_is)
    (case a46 => k_is)
    (case l46 => k_is)
    (case c46 => k_is)
    (case k46 => k_is)
    (case a47 => k_is)
    (case l47 => k_is)
    (case c47 => k_is)
    (case k47 => k_is)
    (case a48 => k_is)
    (case l48 => k_is)
    (case c48 => k_is)
    (case k48 => k_is)
    (case a50 => k_is)
    (case l50 => k_is)
    (case c50 => k_is)
    (case k50 => k_is)
    (case a51 => k_is)
    (case l51 => k_is)
    (case c51 => k_is)
    (case k51 => k_is)
    (case a52 => k_is)
    (case l52 => k_is)
    (case c52 => k_is)
    (case k52 => k_is)
    (case a53 => k_is)
    (case l53 => k_is)
    (case c53 => k_is)
    (case k53 => k_is)
    (case a54 => k_is)
    (case l54 => k_is)
    (case c54 => k_is)
    (case k54 => k_is)
    (case a55 => k_is)
    (case l55 => k_is)
    (case c55 => k_is)
    (case k55 => k_is)
    (case a56 => k_is)
    (case l56 => k_is)
    (case c56 => k_is)
    (case k56 => k_is)
    (case a57 => k_is)
    (case l57 => k_is)
    (case c57 => k_is)
    (case k57 => k_is)
    (case a58 => k_is)
    (case l58 => k_is)
    (case c58 => k_is)
    (case k58 => k_is)
    (case a59 => k_is)
    (case l59 => k_is)
    (case c59 => k_is)
    (case k59 => k_is)
    (case a60 => k_is)
    (case l60 => k_is)
    (case c60 => k_is)
    (case k60 => k_is)
    (case a61 => k_is)
    (case l61 => k_is)
    (case c61 => k_is)
    (case k61 => k_is)
    (case a62 => k_is)
    (case l62 => k_is)
    (case c62 => k_is)
    (case k62 => k_is)
    (case a63 => k_is)
    (case l63 => k_is)
    (case c63 => k_is)
    (case k63 => k_is)
    (case a64 => k_is)
    (case l64 => k_is)
    (case c64 => k_is)
    (case k64 => k_is)
    (case a65 => k_is)
    (case l65 => k_is)
    (case c65 => k_is)
    (case k65 => k_is)
    (case a66 => k_is)
    (case l66 => k_is)
    (case c66 => k_is)
    (case k66 => k_is)
    (case a67 => k_is)
    (case l67 => k_is)
    (case c67 => k_is)
    (case k67 => k_is)
    (case a68 => k_is)
    (case l68 => k_is)
    (case c68 => k_is)
    (case k68 => k_is)
    (case a69 => k_is)
    (case l69 => k_is)
    (case c69 => k_is)
    (case k69 => k_is)
    (case a70 => k_is)
    (case l70 => k_is)
    (case c70 => k_is)
    (case k70 => k_is)
    (case z_all => k_is)
    (case z_bool => k_is)
    (case z_enumerate => k_is)
    (case z_int => k_is)
    (case z_isinstance => k_is)
    (case z_len => k_is)
    (case z_list => k_is)
    (case z_max => k_is)
    (case z_range => k_is)
    (case z_repr => k_is)
    (case z_sorted => k_is)
    (case z_tuple => k_is)
    (case z_zip => k_is)
    (case z_gcd => k_is)
    (case e1_BadDirection => k_is)
    (case e4_BadDirection => k_is)
    (case e5_BadDirection => k_is)
    (case q1_BadDirection => first | k_is | kernel_rfl)
    (case x1_BadDirection => first | k_exc | k_is | kernel_rfl)
    (case x2_BadDirection => first | k_exc | k_is | kernel_rfl)
    (case x3_BadDirection => k_is)
    (case x4_BadDirection => k_is)
    (case x5_BadDirection => k_is)
    (case x6_BadDirection => k_is)
    (case x7_BadDirection => k_is)
    (case e3_BadDirection => k_is)
    (case x9_BadDirection => k_is)
    (case y1_BadDirection => k_is)
    (case y2_BadDirection => k_is)
    (case y3_BadDirection => k_is)
    (case g1_BadDirection => k_is)
    (case g2_BadDirection => k_is)
    (case g3_BadDirection => k_is)
    (case g4_BadDirection => k_is)
    (case e1_BadNumber => k_is)
    (case e4_BadNumber => k_is)
    (case e5_BadNumber => k_is)
    (case x1_BadNumber => first | k_exc | k_is | kernel_rfl)
    (case x2_BadNumber => first | k_exc | k_is | kernel_rfl)
    (case x3_BadNumber => k_is)
    (case x4_BadNumber => k_is)
    (case x5_BadNumber => k_is)
    (case x6_BadNumber => k_is)
    (case x7_BadNumber => k_is)
    (case e3_BadNumber => k_is)
    (case x9_BadNumber => k_is)
    (case y1_BadNumber => k_is)
    (case y2_BadNumber => k_is)
    (case y3_BadNumber => k_is)
    (case g1_BadNumber => k_is)
    (case g2_BadNumber => k_is)
    (case g3_BadNumber => k_is)
    (case g4_BadNumber => k_is)
    (case e1_BadSide => k_is)
    (case e4_BadSide => k_is)
    (case e5_BadSide => k_is)
    (case x1_BadSide => first | k_exc | k_is | kernel_rfl)
    (case x2_BadSide => first | k_exc | k_is | kernel_rfl)
    (case x3_BadSide => k_is)
    (case x4_BadSide => k_is)
    (case x5_BadSide => k_is)
    (case x6_BadSide => k_is)
    (case x7_BadSide => k_is)
    (case e3_BadSide => k_is)
    (case x9_BadSide => k_is)
    (case y1_BadSide => k_is)
    (case y2_BadSide => k_is)
    (case y3_BadSide => k_is)
    (case g1_BadSide => k_is)
    (case g2_BadSide => k_is)
    (case g3_BadSide => k_is)
    (case g4_BadSide => k_is)
    (case e1_NoSuchSide => k_is)
    (case e4_NoSuchSide => k_is)
    (case e5_NoSuchSide => k_is)
    (case q1_NoSuchSide => first | k_is | kernel_rfl)
    (case x1_NoSuchSide => first | k_exc | k_is | kernel_rfl)
    (case x2_NoSuchSide => first | k_exc | k_is | kernel_rfl)
    (case x3_NoSuchSide => k_is)
    (case x4_NoSuchSide => k_is)
    (case x5_NoSuchSide => k_is)
    (case x6_NoSuchSide => k_is)
    (case x7_NoSuchSide => k_is)
    (case e3_NoSuchSide => k_is)
    (case x9_NoSuchSide => k_is)
    (case y1_NoSuchSide => k_is)
    (case y2_NoSuchSide => k_is)
    (case y3_NoSuchSide => k_is)
    (case g1_NoSuchSide => k_is)
    (case g2_NoSuchSide => k_is)
    (case g3_NoSuchSide => k_is)
    (case g4_NoSuchSide => k_is)
    (case e1_NoWorm => k_is)
    (case e4_NoWorm => k_is)
    (case e5_NoWorm => k_is)
    (case q1_NoWorm => first | k_is | kernel_rfl)
    (case x1_NoWorm => first | k_exc | k_is | kernel_rfl)
    (case x2_NoWorm => first | k_exc | k_is | kernel_rfl)
    (case x3_NoWorm => k_is)
    (case x4_NoWorm => k_is)
    (case x5_NoWorm => k_is)
    (case x6_NoWorm => k_is)
    (case x7_NoWorm => k_is)
    (case e3_NoWorm => k_is)
    (case x9_NoWorm => k_is)
    (case y1_NoWorm => k_is)
    (case y2_NoWorm => k_is)
    (case y3_NoWorm => k_is)
    (case g1_NoWorm => k_is)
    (case g2_NoWorm => k_is)
    (case g3_NoWorm => k_is)
    (case g4_NoWorm => k_is)
    (case r_BadDirection_BadDirection => k_is)
    (case r_BadDirection_NoSuchSide => k_is)
    (case r_BadDirection_NoWorm => k_is)
    (case r_BadNumber_BadDirection => k_is)
    (case r_BadNumber_NoSuchSide => k_is)
    (case r_BadNumber_NoWorm => k_is)
    (case r_BadSide_BadDirection => k_is)
    (case r_BadSide_NoSuchSide => k_is)
    (case r_BadSide_NoWorm => k_is)
    (case r_NoSuchSide_BadDirection => k_is)
    (case r_NoSuchSide_NoSuchSide => k_is)
    (case r_NoSuchSide_NoWorm => k_is)
    (case r_NoWorm_BadDirection => k_is)
    (case r_NoWorm_NoSuchSide => k_is)
    (case r_NoWorm_NoWorm => k_is)
    (case d1 => kernel_rfl)
    (case d2 => k_is)
    (case G_FIRST_SIDE => k_is)
    (case Fy1 => k_is)
    (case G_NO_SIDE => k_is)
    (case Fy7 => k_is)
    (case gn => k_is)
    (case gt => k_is)
    (case o1_Floor => k_is)
    (case o2_Floor => first | k_is | kernel_rfl)
    (case o3_Floor => first | k_is | kernel_rfl)
    (case o4_Floor => first | k_is | kernel_rfl)
    (case o5_Floor => k_is)
    (case o6_Floor => k_is)
    (case o7_Floor => k_is)
    (case of_Floor_all_keys => k_is)
    (case of_Floor_side => k_is)
    (case ob_Floor_NoneType => kit_is)
    (case ot_Floor_NoneType => kit_is)
    (case os_Floor_NoneType => k_is)
    (case ob_Floor_bool => kit_is)
    (case ot_Floor_bool => kit_is)
    (case os_Floor_bool => k_is)
    (case ob_Floor_int => kit_is)
    (case ot_Floor_int => kit_is)
    (case os_Floor_int => k_is)
    (case ob_Floor_str => kit_is)
    (case ot_Floor_str => kit_is)
    (case os_Floor_str => k_is)
    (case ob_Floor_tuple => kit_is)
    (case ot_Floor_tuple => kit_is)
    (case os_Floor_tuple => k_is)
    (case ob_Floor_list => kit_is)
    (case ot_Floor_list => kit_is)
    (case os_Floor_list => k_is)
    (case ob_Floor_dict => kit_is)
    (case ot_Floor_dict => kit_is)
    (case os_Floor_dict => k_is)
    (case oo_Floor => kit_is)
    (case m1_Floor => first | k_is | kernel_rfl)
    (case m2_Floor => k_is)
    (case m3_Floor => first | k_is | kernel_rfl)
    (case m4_Floor => k_is)
    (case lI_Floor => k_is)
    (case cI_Floor => k_is)
    (case kI_Floor => k_is)
    (case ddI_Floor => k_is)
    (case Fy13 => k_is)
    (case q2_Floor => k_is)
    (case q3_Floor => first | k_is | kernel_rfl)
    (case lE_Floor => k_is)
    (case cE_Floor => k_is)
    (case kE_Floor => k_is)
