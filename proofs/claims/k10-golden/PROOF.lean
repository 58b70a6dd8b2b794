import PyProof.Rows.All
import Wide.All
import OpenK.AllK
import Wide.FinOn
import HandS.ForMost
import HandS.ForExc
import HandS.Lambda
import HandS.Wide
import HandS.Flow
import HandS.TupAny
import HandS.TupLe
import HandS.Style
import HandS.Deep
import HandS.Codes
import HandS.Zip
import HandS.Gcd
import HandS.IsInst
import HandS.Text
import HandS.Conv
import HandS.WordsDict
import HandS.RaiseMore
import KE.KMathG
import PyProof.StrBlock2
import HandS.WordsExc
import HandS.EndBits
import HandS.Dict
import HandS.Small
import HandS.Exc
import KE.KExcInit
import HandS.TryMany
import HandS.ExcIs
import PyProof.Rows.SumAny
import PyProof.WalksMore
import PyProof.Rows.StrOr
import KE.KIntText
import PyProof.ReprLen
import HandS.EndTab
import KE.KRevSl
import KE.KNest
import HandS.Defaults
import HandS.MakeKw
import HandS.MakeKwOnly
import HandS.Sort
import HandS.SortOrd
import HandS.SortRule
import KE.DataEq
import PySem.Challenge.RW_nevertwice_k10_any_value_as_a_golden_num
set_option Elab.async false
set_option maxRecDepth 100000
set_option maxHeartbeats 2000000
/-! ND1: data by value over HandS's abstract heap: D, Rep, the growth of a heap, the state of a body, expressions' and statements' judgements -/
namespace ND
open PySem PySem.Spec PyProof.Rows L2

/-- a value by value -/
inductive D where
  | non | bl (b : Bool) | int (i : Int) | str (x : Str)
  | tup (xs : List D) | lst (xs : List D)
  | dic (kvs : List (Key × D))
  | obj (C : Str) (fs : List (Str × D))
  | opq (v : V)

/-- the written part, the module's names -/
structure Kn where
  K : PySem.W.Frag
  mg : Str → Option Value
mutual
/-- v is d, by the frozen part F -/
inductive Rep (K : Kn) (F : Hp) : V → D → Prop
  | non : Rep K F .non .non
  | bl (b : Bool) : Rep K F (.bl b) (.bl b)
  | int (i : Int) : Rep K F (.int i) (.int i)
  | str (x : Str) : Rep K F (.str x) (.str x)
  | tup {a : Addr} {xs : List V} {ds : List D} : SqT K.K F a xs → Reps K F xs ds → Rep K F (.ref a) (.tup ds)
  | lst {a : Addr} {xs : List V} {ds : List D} : F a = some (.lst xs) → Reps K F xs ds → Rep K F (.ref a) (.lst ds)
  | dic {a : Addr} {kvs : List (Key × V)} {ds : List (Key × D)} : F a = some (.dK kvs) → RepKs K F kvs ds → Rep K F (.ref a) (.dic ds)
  | obj {a C dx : Addr} {n : Str} {fs : List (Str × V)} {ds : List (Str × D)} : K.mg n = some (.ref C) → F a = some (.ins C dx fs) → RepFs K F fs ds → Rep K F (.ref a) (.obj n ds)
  | opq (v : V) : Rep K F v (.opq v)
inductive Reps (K : Kn) (F : Hp) : List V → List D → Prop
  | nil : Reps K F [] []
  | cons {v : V} {vs : List V} {d : D} {ds : List D} : Rep K F v d → Reps K F vs ds → Reps K F (v :: vs) (d :: ds)
inductive RepKs (K : Kn) (F : Hp) : List (Key × V) → List (Key × D) → Prop
  | nil : RepKs K F [] []
  | cons {k : Key} {v : V} {vs : List (Key × V)} {d : D} {ds : List (Key × D)} : Rep K F v d → RepKs K F vs ds → RepKs K F ((k, v) :: vs) ((k, d) :: ds)
inductive RepFs (K : Kn) (F : Hp) : List (Str × V) → List (Str × D) → Prop
  | nil : RepFs K F [] []
  | cons {k : Str} {v : V} {vs : List (Str × V)} {d : D} {ds : List (Str × D)} : Rep K F v d → RepFs K F vs ds → RepFs K F ((k, v) :: vs) ((k, d) :: ds)
end

theorem same_t {K : PySem.W.Frag} {H H' : Hp} {a : Addr} {xs : List V} (e : Same H H') (h : SqT K H a xs) : SqT K H' a xs := by
  rcases h with (h | ⟨o, h⟩) | h
  · exact .inl (.inl (e _ _ h))
  · exact .inl (.inr ⟨o, e _ _ h⟩)
  · exact .inr h
theorem same_new {H : Hp} {p : Addr} {o : HO} (h : H p = none) : Same H (upd H p o) := fun b x e => by
  rw [upd_ne (ne_of_none e h)]
  exact e

mutual
theorem Rep.mono {K : Kn} {F F' : Hp} (e : Same F F') : ∀ {v : V} {d : D}, Rep K F v d → Rep K F' v d
  | _, _, .non => .non
  | _, _, .bl b => .bl b
  | _, _, .int i => .int i
  | _, _, .str x => .str x
  | _, _, .tup h r => .tup (same_t e h) (Reps.mono e r)
  | _, _, .lst h r => .lst (e _ _ h) (Reps.mono e r)
  | _, _, .dic h r => .dic (e _ _ h) (RepKs.mono e r)
  | _, _, .obj n h r => .obj n (e _ _ h) (RepFs.mono e r)
  | _, _, .opq v => .opq v
theorem Reps.mono {K : Kn} {F F' : Hp} (e : Same F F') : ∀ {v : List V} {d : List D}, Reps K F v d → Reps K F' v d
  | _, _, .nil => .nil
  | _, _, .cons r t => .cons (Rep.mono e r) (Reps.mono e t)
theorem RepKs.mono {K : Kn} {F F' : Hp} (e : Same F F') : ∀ {v : List (Key × V)} {d : List (Key × D)}, RepKs K F v d → RepKs K F' v d
  | _, _, .nil => .nil
  | _, _, .cons r t => .cons (Rep.mono e r) (RepKs.mono e t)
theorem RepFs.mono {K : Kn} {F F' : Hp} (e : Same F F') : ∀ {v : List (Str × V)} {d : List (Str × D)}, RepFs K F v d → RepFs K F' v d
  | _, _, .nil => .nil
  | _, _, .cons r t => .cons (Rep.mono e r) (RepFs.mono e t)
end

theorem Reps.length {K : Kn} {F : Hp} : ∀ {v : List V} {d : List D}, Reps K F v d → v.length = d.length
  | _, _, .nil => rfl
  | _, _, .cons _ t => by rw [List.length_cons, List.length_cons, Reps.length t]
theorem Reps.get {K : Kn} {F : Hp} : ∀ {v : List V} {d : List D} {i : Nat} {x : D}, Reps K F v d → d[i]? = some x → ∃ u, v[i]? = some u ∧ Rep K F u x
  | _, _, _, _, .nil, e => by simp at e
  | _, _, 0, x, .cons r _, e => by simp at e; subst e; exact ⟨_, rfl, r⟩
  | _, _, i + 1, x, .cons _ t, e => by
    obtain ⟨u, h1, h2⟩ := Reps.get (i := i) (x := x) t (by simpa using e)
    exact ⟨u, by simpa using h1, h2⟩
theorem Reps.getV {K : Kn} {F : Hp} : ∀ {v : List V} {d : List D} {i : Nat} {u : V}, Reps K F v d → v[i]? = some u → ∃ x, d[i]? = some x ∧ Rep K F u x
  | _, _, _, _, .nil, e => by simp at e
  | _, _, 0, x, .cons r _, e => by simp at e; subst e; exact ⟨_, rfl, r⟩
  | _, _, i + 1, x, .cons _ t, e => by
    obtain ⟨u, h1, h2⟩ := Reps.getV (i := i) (u := x) t (by simpa using e)
    exact ⟨u, by simpa using h1, h2⟩
theorem Reps.append {K : Kn} {F : Hp} : ∀ {v v' : List V} {d d' : List D}, Reps K F v d → Reps K F v' d' → Reps K F (v ++ v') (d ++ d')
  | _, _, _, _, .nil, h => h
  | _, _, _, _, .cons r t, h => .cons r (Reps.append t h)
theorem Reps.take {K : Kn} {F : Hp} : ∀ {v : List V} {d : List D} (n : Nat), Reps K F v d → Reps K F (v.take n) (d.take n)
  | _, _, 0, _ => .nil
  | _, _, n + 1, .nil => .nil
  | _, _, n + 1, .cons r t => .cons r (Reps.take n t)
theorem Reps.drop {K : Kn} {F : Hp} : ∀ {v : List V} {d : List D} (n : Nat), Reps K F v d → Reps K F (v.drop n) (d.drop n)
  | _, _, 0, h => h
  | _, _, n + 1, .nil => .nil
  | _, _, n + 1, .cons _ t => Reps.drop n t
theorem Reps.reverse {K : Kn} {F : Hp} : ∀ {v : List V} {d : List D}, Reps K F v d → Reps K F v.reverse d.reverse
  | _, _, .nil => .nil
  | _, _, .cons r t => by
    rw [List.reverse_cons, List.reverse_cons]
    exact Reps.append (Reps.reverse t) (.cons r .nil)
theorem Reps.set {K : Kn} {F : Hp} {u : V} {x : D} (h : Rep K F u x) : ∀ {v : List V} {d : List D} (n : Nat), Reps K F v d → Reps K F (v.set n u) (d.set n x)
  | _, _, _, .nil => .nil
  | _, _, 0, .cons _ t => .cons h t
  | _, _, n + 1, .cons r t => .cons r (Reps.set h n t)
theorem Reps.of_all {K : Kn} {F : Hp} : ∀ {v : List V} {d : List D}, v.length = d.length → (∀ (i : Nat) (u : V) (x : D), v[i]? = some u → d[i]? = some x → Rep K F u x) → Reps K F v d
  | [], [], _, _ => .nil
  | u :: v, x :: d, hl, h => .cons (h 0 u x rfl rfl) (Reps.of_all (by simpa using hl) fun i u' x' e1 e2 => h (i + 1) u' x' (by simpa using e1) (by simpa using e2))
theorem reps_ints {K : Kn} {F : Hp} : ∀ ns : List Int, Reps K F (ns.map V.int) (ns.map D.int)
  | [] => .nil
  | n :: ns => .cons (.int n) (reps_ints ns)

/-! ### the deck: the one object that calls change -/
abbrev WD := Option (Addr × Addr)
/-- the deck, the tables of the code objects of lambdas -/
structure WT where
  p : WD
  T : List (Addr × Str)
def InW (W : WT) (a : Addr) : Prop := (∃ p, W.p = some p ∧ (a = p.1 ∨ a = p.2)) ∨ ∃ x, x ∈ W.T ∧ a = x.1
/-- the dict at p.1 with the keys left (the list at p.2), mixed, draws -/
def deckO (l : Addr) (m n : Int) : HO := .dK [(.inr "left", .ref l), (.inr "mixed", .int m), (.inr "draws", .int n)]
structure DeckAt (p : Addr × Addr) (F H : Hp) : Prop where
  fd : F p.1 = none
  fl : F p.2 = none
  ne : p.1 ≠ p.2
  st : ∃ (ns : List Int) (m n : Int), H p.1 = some (deckO p.2 m n) ∧ H p.2 = some (.lst (ns.map V.int)) ∧ ns.length ≤ 63 ∧ 0 ≤ m ∧ m < 2147483587
/-- no table -/
def NT (o : HO) : Prop := ∀ ps, o ≠ .tbl ps
structure DeckIn (W : WT) (F H : Hp) : Prop where
  dk : ∀ p, W.p = some p → DeckAt p F H
  tf : ∀ x, x ∈ W.T → F x.1 = none
  tb : LamX.Tabs W.T H
  nf : ∀ a o, F a = some o → NT o
  ot : ∀ a ps, H a = some (.tbl ps) → ∃ x, x ∈ W.T ∧ a = x.1
theorem DeckIn.w {W : WT} {F H : Hp} {a : Addr} (h : DeckIn W F H) (w : InW W a) : F a = none ∧ H a ≠ none := by
  rcases w with ⟨p, e0, e⟩ | ⟨x, hx, rfl⟩
  · have z := h.dk p e0
    obtain ⟨ns, m, n, h1, h2, _⟩ := z.st
    rcases e with e | e <;> subst e
    · exact ⟨z.fd, by rw [h1]; exact Option.some_ne_none _⟩
    · exact ⟨z.fl, by rw [h2]; exact Option.some_ne_none _⟩
  · obtain ⟨ps, h1, _⟩ := h.tb x hx
    exact ⟨h.tf x hx, by rw [h1]; exact Option.some_ne_none _⟩
/-- the deck stands where its objects stand -/
theorem DeckIn.keep {W : WT} {F H F' H' : Hp} (h : DeckIn W F H) (hf : ∀ a, InW W a → F' a = F a) (hh : ∀ a, InW W a → H' a = H a) (ex : ∀ a φ, H a = some (.ext φ) → H' a = some (.ext φ)) (nf : ∀ a o, F' a = some o → NT o) (ot : ∀ a ps, H' a = some (.tbl ps) → H a = some (.tbl ps)) : DeckIn W F' H' :=
  ⟨fun p e => by
    have z := h.dk p e
    have i1 : InW W p.1 := .inl ⟨p, e, .inl rfl⟩
    have i2 : InW W p.2 := .inl ⟨p, e, .inr rfl⟩
    obtain ⟨ns, m, n, h1, h2, r⟩ := z.st
    exact ⟨by rw [hf _ i1]; exact z.fd, by rw [hf _ i2]; exact z.fl, z.ne, ns, m, n, by rw [hh _ i1]; exact h1, by rw [hh _ i2]; exact h2, r⟩,
  fun x hx => by
    rw [hf _ (.inr ⟨x, hx, rfl⟩)]
    exact h.tf x hx,
  fun x hx => by
    obtain ⟨ps, h1, h2, h3⟩ := h.tb x hx
    refine ⟨ps, by rw [hh _ (.inr ⟨x, hx, rfl⟩)]; exact h1, h2, fun pos cv hc => ?_⟩
    obtain ⟨c, e1, e2⟩ := h3 pos cv hc
    exact ⟨c, e1, ex c _ e2⟩, nf, fun a ps e => h.ot a ps (ot a ps e)⟩
theorem ot_upd {H : Hp} {p : Addr} {o : HO} (n : NT o) : ∀ a ps, upd H p o a = some (.tbl ps) → H a = some (.tbl ps) := fun a ps e => by
  by_cases z : a = p
  · subst z
    rw [upd_same] at e
    cases e
    exact absurd rfl (n ps)
  · rw [upd_ne z] at e
    exact e
theorem nf_upd {F : Hp} {p : Addr} {o : HO} (h : ∀ a o, F a = some o → NT o) (n : NT o) : ∀ a u, upd F p o a = some u → NT u := fun a u e => by
  by_cases z : a = p
  · subst z
    rw [upd_same] at e
    cases e
    exact n
  · rw [upd_ne z] at e
    exact h a u e

/-! ### growth -/
structure Grow (W : WT) (F H F' H' : Hp) : Prop where
  ff : Same F F'
  fh : Same F' H'
  hh : ∀ a o, H a = some o → ¬ InW W a → NT o → H' a = some o
  new : ∀ a, F a = none → H a ≠ none → F' a = none
  keep : ∀ a, H a ≠ none → H' a ≠ none
section
variable {W : WT} {F H F1 H1 F2 H2 : Hp} {p : Addr} {o : HO}
theorem Grow.refl (h : Same F H) : Grow W F H F H := ⟨Same.refl F, h, fun _ _ e _ _ => e, fun _ e _ => e, fun _ e => e⟩
theorem Grow.trans (a : Grow W F H F1 H1) (b : Grow W F1 H1 F2 H2) : Grow W F H F2 H2 :=
  ⟨a.ff.trans b.ff, b.fh, fun x o e w n => b.hh x o (a.hh x o e w n) w n, fun x e n => b.new x (a.new x e n) (a.keep x n), fun x n => b.keep x (a.keep x n)⟩
theorem Grow.back (g : Grow W F H F1 H1) {a : Addr} (h : H1 a = none) : H a = none := by
  cases e : H a with
  | none => rfl
  | some o => exact absurd h (g.keep a (by rw [e]; exact Option.some_ne_none _))
theorem upd_keep {H : Hp} {p a : Addr} {o : HO} (h : H a ≠ none) : upd H p o a ≠ none := by
  by_cases e : a = p
  · subst e
    rw [upd_same]
    exact Option.some_ne_none _
  · rw [upd_ne e]
    exact h
/-- a new tracked object -/
theorem Grow.laid (e : Same F H) (h : H p = none) : Grow W F H F (upd H p o) :=
  ⟨Same.refl F, e.trans (same_new h), fun a u q _ _ => same_new h a u q, fun _ q _ => q, fun _ q => upd_keep q⟩
theorem same_upd2 (e : Same F H) : Same (upd F p o) (upd H p o) := fun a u q => by
  by_cases z : a = p
  · subst z
    rw [upd_same] at q ⊢
    exact q
  · rw [upd_ne z] at q ⊢
    exact e a u q
/-- a new frozen object -/
theorem Grow.frz (e : Same F H) (h : H p = none) : Grow W F H (upd F p o) (upd H p o) :=
  ⟨same_new (e.free h), same_upd2 e, fun a u q _ _ => same_new h a u q, fun a q n => by
    have z : a ≠ p := fun z => n (by rw [z]; exact h)
    rw [upd_ne z]
    exact q, fun _ q => upd_keep q⟩
/-- what is new and tracked becomes frozen -/
theorem Grow.freeze {F' H' : Hp} (g : Grow W F H F' H') (hp : H p = none) (fp : F' p = none) (h : H' p = some o) : Grow W F H (upd F' p o) H' :=
  ⟨g.ff.trans (same_new fp), fun a u q => by
    by_cases z : a = p
    · subst z
      rw [upd_same] at q
      rw [h]
      exact q
    · rw [upd_ne z] at q
      exact g.fh a u q, g.hh, fun a q n => by
    have z : a ≠ p := fun z => n (by rw [z]; exact hp)
    rw [upd_ne z]
    exact g.new a q n, g.keep⟩
theorem DeckIn.freeze {F' H' : Hp} (d0 : DeckIn W F H) (d : DeckIn W F' H') (hp : H p = none) (nt : NT o := by intro _ z; cases z) : DeckIn W (upd F' p o) H' :=
  d.keep (fun a w => upd_ne fun z => (d0.w w).2 (by rw [z]; exact hp)) (fun _ _ => rfl) (fun _ _ e => e) (nf_upd d.nf nt) fun _ _ e => e
theorem DeckIn.laid (d : DeckIn W F H) (h : H p = none) (nt : NT o := by intro _ z; cases z) : DeckIn W F (upd H p o) :=
  d.keep (fun _ _ => rfl) (fun a w => upd_ne fun z => (d.w w).2 (by rw [z]; exact h)) (fun a φ e => by rw [upd_ne (ne_of_none e h)]; exact e) d.nf (ot_upd nt)
theorem DeckIn.frz (d : DeckIn W F H) (h : H p = none) (nt : NT o := by intro _ z; cases z) : DeckIn W (upd F p o) (upd H p o) :=
  d.keep (fun a w => upd_ne fun z => (d.w w).2 (by rw [z]; exact h)) (fun a w => upd_ne fun z => (d.w w).2 (by rw [z]; exact h)) (fun a φ e => by rw [upd_ne (ne_of_none e h)]; exact e) (nf_upd d.nf nt) (ot_upd nt)
end

/-! ### the state of a body -/
/-- a slot: nothing known, data, a list or a dict of one's own -/
inductive SV where
  | no | d (x : D) | ol (xs : List D) | od (kvs : List (Key × D))
  | oo (p : Addr) (C : Str) (fs : List (Str × D))
/-- where a body began -/
structure Bs where
  W : WT
  F : Hp
  H : Hp
def SlotR (K : Kn) (F H : Hp) : SV → Option Addr → Option V → Prop
  | .no, none, _ => True
  | .d x, none, some v => Rep K F v x
  | .ol xs, some a, some v => v = .ref a ∧ ∃ vs, H a = some (.lst vs) ∧ Reps K F vs xs
  | .od ks, some a, some v => v = .ref a ∧ ∃ vs, H a = some (.dK vs) ∧ RepKs K F vs ks
  | .oo p n fs, some a, some v => a = p ∧ v = .ref a ∧ ∃ C dx vs, K.mg n = some (.ref C) ∧ H a = some (.ins C dx vs) ∧ RepFs K F vs fs
  | _, _, _ => False
structure Own (B : Bs) (F : Hp) (own : Nat → Option Addr) : Prop where
  inj : ∀ i j a, own i = some a → own j = some a → i = j
  free : ∀ i a, own i = some a → B.H a = none ∧ F a = none
structure Rel (B : Bs) (K : Kn) (σ : List SV) (s : L2.St) (F H : Hp) : Prop where
  base : Grow B.W B.F B.H F H
  bdk : DeckIn B.W B.F B.H
  deck : DeckIn B.W F H
  len : σ.length = s.length
  slots : ∃ own, Own B F own ∧ ∀ (i : Nat) x v, σ[i]? = some x → s[i]? = some v → SlotR K F H x (own i) v
section
variable {B : Bs} {K : Kn} {σ : List SV} {s : L2.St} {F H F' H' : Hp}
theorem Rel.ex (R : Rel B K σ s F H) : Same F H := R.base.fh
theorem Own.notW {own : Nat → Option Addr} (O : Own B F own) (R : DeckIn B.W B.F B.H) {i : Nat} {a : Addr} (h : own i = some a) : ¬ InW B.W a := fun w => (R.w w).2 (O.free i a h).1
theorem SlotR.mono {x : SV} {w : Option Addr} {v : Option V} (h : SlotR K F H x w v) (e : Same F F') (k : ∀ a o, w = some a → H a = some o → NT o → H' a = some o) : SlotR K F' H' x w v := by
  cases x <;> cases w <;> cases v <;> first
    | exact h
    | exact False.elim h
    | skip
  · exact Rep.mono e h
  · obtain ⟨h1, vs, h2, h3⟩ := h
    exact ⟨h1, vs, k _ _ rfl h2 (by intro _ z; cases z), Reps.mono e h3⟩
  · obtain ⟨h1, vs, h2, h3⟩ := h
    exact ⟨h1, vs, k _ _ rfl h2 (by intro _ z; cases z), RepKs.mono e h3⟩
  · obtain ⟨h0, h1, C, dx, vs, hn, h2, h3⟩ := h
    exact ⟨h0, h1, C, dx, vs, hn, k _ _ rfl h2 (by intro _ z; cases z), RepFs.mono e h3⟩
theorem SlotR.there {x : SV} {a : Addr} {v : Option V} (h : SlotR K F H x (some a) v) : H a ≠ none := by
  cases x <;> cases v <;> first
    | exact False.elim h
    | (obtain ⟨_, vs, h2, _⟩ := h; rw [h2]; exact Option.some_ne_none _)
    | (obtain ⟨_, _, C, dx, vs, _, h2, _⟩ := h; rw [h2]; exact Option.some_ne_none _)
theorem Rel.grow (R : Rel B K σ s F H) (g : Grow B.W F H F' H') (d : DeckIn B.W F' H') : Rel B K σ s F' H' := by
  obtain ⟨own, O, h⟩ := R.slots
  have key : ∀ i x, σ[i]? = some x → ∃ v, s[i]? = some v := fun i x e => by
    have h1 : i < s.length := by rw [← R.len]; exact (List.getElem?_eq_some_iff.mp e).1
    exact ⟨s[i], List.getElem?_eq_getElem h1⟩
  -- an owned address out of the slots is of no use: forget it
  refine ⟨R.base.trans g, R.bdk, d, R.len, fun i => if i < σ.length then own i else none, ⟨fun i j a e1 e2 => ?_, fun i a e => ?_⟩, fun i x v e1 e2 => ?_⟩
  · split at e1 <;> split at e2 <;> first | exact O.inj i j a e1 e2 | cases e1 | cases e2
  · split at e
    · rename_i hi
      obtain ⟨h1, h2⟩ := O.free i a e
      refine ⟨h1, g.new a h2 ?_⟩
      obtain ⟨v, ev⟩ := key i σ[i] (by simp [hi])
      have q := h i σ[i] v (by simp [hi]) ev
      rw [e] at q
      exact q.there
    · cases e
  · have hi : i < σ.length := (List.getElem?_eq_some_iff.mp e1).1
    dsimp only
    rw [if_pos hi]
    exact (h i x v e1 e2).mono g.ff fun a o e q n => g.hh a o q (O.notW R.bdk e) n
/-- a slot takes data -/
theorem Rel.set (R : Rel B K σ s F H) {i : Nat} {v : V} {x : D} (h : Rep K F v x) : Rel B K (σ.set i (.d x)) (s.set i (some v)) F H := by
  obtain ⟨own, O, q⟩ := R.slots
  refine ⟨R.base, R.bdk, R.deck, by rw [List.length_set, List.length_set]; exact R.len, fun j => if j = i then none else own j, ⟨fun a b c e1 e2 => ?_, fun a b e => ?_⟩, fun j y u e1 e2 => ?_⟩
  · split at e1 <;> split at e2 <;> first | exact O.inj a b c e1 e2 | cases e1 | cases e2
  · split at e
    · cases e
    · exact O.free a b e
  · by_cases z : j = i
    · subst z
      have h1 : j < σ.length := by
        have := (List.getElem?_eq_some_iff.mp e1).1
        rwa [List.length_set] at this
      have h2 : j < s.length := by rw [← R.len]; exact h1
      rw [List.getElem?_set_self h1] at e1
      rw [List.getElem?_set_self h2] at e2
      cases e1
      cases e2
      dsimp only
      rw [if_pos rfl]
      exact h
    · rw [List.getElem?_set_ne (Ne.symm z)] at e1 e2
      dsimp only
      rw [if_neg z]
      exact q j y u e1 e2
/-- a slot is forgotten -/
theorem Rel.drop (R : Rel B K σ s F H) {i : Nat} {v : Option V} : Rel B K (σ.set i .no) (s.set i v) F H := by
  obtain ⟨own, O, q⟩ := R.slots
  refine ⟨R.base, R.bdk, R.deck, by rw [List.length_set, List.length_set]; exact R.len, fun j => if j = i then none else own j, ⟨fun a b c e1 e2 => ?_, fun a b e => ?_⟩, fun j y u e1 e2 => ?_⟩
  · split at e1 <;> split at e2 <;> first | exact O.inj a b c e1 e2 | cases e1 | cases e2
  · split at e
    · cases e
    · exact O.free a b e
  · by_cases z : j = i
    · subst z
      have h1 : j < σ.length := by
        have := (List.getElem?_eq_some_iff.mp e1).1
        rwa [List.length_set] at this
      rw [List.getElem?_set_self h1] at e1
      cases e1
      dsimp only
      rw [if_pos rfl]
      trivial
    · rw [List.getElem?_set_ne (Ne.symm z)] at e1 e2
      dsimp only
      rw [if_neg z]
      exact q j y u e1 e2
/-- a slot takes a new object of one's own -/
theorem Rel.setNew (R : Rel B K σ s F H) {i : Nat} {p : Addr} {x : SV} (g : Grow B.W F H F' H') (dk : DeckIn B.W F' H') (hp : H p = none) (fp : F' p = none) (h : SlotR K F' H' x (some p) (some (.ref p))) : Rel B K (σ.set i x) (s.set i (some (.ref p))) F' H' := by
  have R2 := R.grow g dk
  obtain ⟨own, O, q⟩ := R.slots
  have nop : ∀ j a, j < σ.length → own j = some a → H a ≠ none := fun j a hj e => by
    have h2 : j < s.length := by rw [← R.len]; exact hj
    have w := q j σ[j] s[j] (by simp [hj]) (by simp [h2])
    rw [e] at w
    exact w.there
  have bp : B.H p = none := R.base.back hp
  refine ⟨R2.base, R.bdk, R2.deck, by rw [List.length_set, List.length_set]; exact R.len, fun j => if j = i then some p else if j < σ.length then own j else none, ⟨fun a b c e1 e2 => ?_, fun a b e => ?_⟩, fun j y u e1 e2 => ?_⟩
  · split at e1 <;> split at e2 <;> (try split at e1) <;> (try split at e2) <;> (try cases e1) <;> (try cases e2) <;> (try subst_vars) <;> first
      | rfl
      | exact absurd hp (nop _ _ (by assumption) (by assumption))
      | (exact O.inj _ _ _ (by assumption) (by assumption))
  · split at e
    · cases e
      exact ⟨bp, fp⟩
    · split at e
      · rename_i hl
        obtain ⟨h1, h2⟩ := O.free a b e
        exact ⟨h1, g.new b h2 (nop a b hl e)⟩
      · cases e
  · by_cases z : j = i
    · subst z
      have h1 : j < σ.length := by
        have := (List.getElem?_eq_some_iff.mp e1).1
        rwa [List.length_set] at this
      have h2 : j < s.length := by rw [← R.len]; exact h1
      rw [List.getElem?_set_self h1] at e1
      rw [List.getElem?_set_self h2] at e2
      cases e1
      cases e2
      dsimp only
      rw [if_pos rfl]
      exact h
    · rw [List.getElem?_set_ne (Ne.symm z)] at e1 e2
      have hj : j < σ.length := (List.getElem?_eq_some_iff.mp e1).1
      dsimp only
      rw [if_neg z, if_pos hj]
      exact (q j y u e1 e2).mono g.ff fun a o' e w n => g.hh a o' w (O.notW R.bdk e) n
/-- what a slot with an object of one's own holds -/
theorem Rel.ownL (R : Rel B K σ s F H) {i : Nat} {xs : List D} (h : σ[i]? = some (.ol xs)) : ∃ a vs, s[i]? = some (some (.ref a)) ∧ H a = some (.lst vs) ∧ Reps K F vs xs ∧ ¬ InW B.W a ∧ F a = none ∧ B.H a = none := by
  obtain ⟨own, O, q⟩ := R.slots
  have h1 : i < s.length := by rw [← R.len]; exact (List.getElem?_eq_some_iff.mp h).1
  have w := q i _ s[i] h (by simp [h1])
  cases e : own i with
  | none =>
    rw [e] at w
    exact False.elim (by cases s[i] <;> exact w)
  | some a =>
    rw [e] at w
    cases e2 : s[i] with
    | none =>
      rw [e2] at w
      exact False.elim w
    | some v =>
      rw [e2] at w
      obtain ⟨rfl, vs, h2, h3⟩ := w
      exact ⟨a, vs, by rw [List.getElem?_eq_getElem h1, e2], h2, h3, O.notW R.bdk e, (O.free i a e).2, (O.free i a e).1⟩
theorem Rel.ownD (R : Rel B K σ s F H) {i : Nat} {xs : List (Key × D)} (h : σ[i]? = some (.od xs)) : ∃ a vs, s[i]? = some (some (.ref a)) ∧ H a = some (.dK vs) ∧ RepKs K F vs xs ∧ ¬ InW B.W a ∧ F a = none ∧ B.H a = none := by
  obtain ⟨own, O, q⟩ := R.slots
  have h1 : i < s.length := by rw [← R.len]; exact (List.getElem?_eq_some_iff.mp h).1
  have w := q i _ s[i] h (by simp [h1])
  cases e : own i with
  | none =>
    rw [e] at w
    exact False.elim (by cases s[i] <;> exact w)
  | some a =>
    rw [e] at w
    cases e2 : s[i] with
    | none =>
      rw [e2] at w
      exact False.elim w
    | some v =>
      rw [e2] at w
      obtain ⟨rfl, vs, h2, h3⟩ := w
      exact ⟨a, vs, by rw [List.getElem?_eq_getElem h1, e2], h2, h3, O.notW R.bdk e, (O.free i a e).2, (O.free i a e).1⟩
theorem Rel.ownO (R : Rel B K σ s F H) {i : Nat} {a : Addr} {n : Str} {xs : List (Str × D)} (h : σ[i]? = some (.oo a n xs)) : ∃ C dx vs, s[i]? = some (some (.ref a)) ∧ K.mg n = some (.ref C) ∧ H a = some (.ins C dx vs) ∧ RepFs K F vs xs ∧ ¬ InW B.W a ∧ F a = none ∧ B.H a = none := by
  obtain ⟨own, O, q⟩ := R.slots
  have h1 : i < s.length := by rw [← R.len]; exact (List.getElem?_eq_some_iff.mp h).1
  have w := q i _ s[i] h (by simp [h1])
  cases e : own i with
  | none =>
    rw [e] at w
    exact False.elim (by cases s[i] <;> exact w)
  | some a' =>
    rw [e] at w
    cases e2 : s[i] with
    | none =>
      rw [e2] at w
      exact False.elim w
    | some v =>
      rw [e2] at w
      obtain ⟨rfl, rfl, C, dx, vs, hn, h2, h3⟩ := w
      exact ⟨C, dx, vs, by rw [List.getElem?_eq_getElem h1, e2], hn, h2, h3, O.notW R.bdk e, (O.free i _ e).2, (O.free i _ e).1⟩
theorem Rel.dat (R : Rel B K σ s F H) {i : Nat} {x : D} (h : σ[i]? = some (.d x)) : ∃ v, s[i]? = some (some v) ∧ Rep K F v x := by
  obtain ⟨own, O, q⟩ := R.slots
  have h1 : i < s.length := by rw [← R.len]; exact (List.getElem?_eq_some_iff.mp h).1
  have w := q i _ s[i] h (by simp [h1])
  cases e : own i with
  | some a =>
    rw [e] at w
    exact False.elim (by cases s[i] <;> exact w)
  | none =>
    rw [e] at w
    cases e2 : s[i] with
    | none =>
      rw [e2] at w
      exact False.elim w
    | some v =>
      rw [e2] at w
      exact ⟨v, by rw [List.getElem?_eq_getElem h1, e2], w⟩
/-- an object of one's own is written -/
theorem Rel.write (R : Rel B K σ s F H) {i : Nat} {a : Addr} {o : HO} {x y : SV} (hx : σ[i]? = some y) (hy : (∃ xs, y = .ol xs) ∨ (∃ ks, y = .od ks) ∨ ∃ p n fs, y = .oo p n fs) (hs : s[i]? = some (some (.ref a))) (h : SlotR K F (upd H a o) x (some a) (some (.ref a))) (nt : NT o := by intro _ z; cases z) : Rel B K (σ.set i x) s F (upd H a o) := by
  obtain ⟨own, O, q⟩ := R.slots
  have w := q i _ _ hx hs
  have hi : i < σ.length := (List.getElem?_eq_some_iff.mp hx).1
  have eo : own i = some a := by
    cases e : own i with
    | none =>
      rw [e] at w
      rcases hy with ⟨_, rfl⟩ | ⟨_, rfl⟩ | ⟨_, _, _, rfl⟩ <;> exact False.elim w
    | some b =>
      rw [e] at w
      rcases hy with ⟨_, rfl⟩ | ⟨_, rfl⟩ | ⟨_, _, _, rfl⟩
      · obtain ⟨e2, _⟩ := w
        cases e2
        rfl
      · obtain ⟨e2, _⟩ := w
        cases e2
        rfl
      · obtain ⟨_, e2, _⟩ := w
        cases e2
        rfl
  obtain ⟨b0, f0⟩ := O.free i a eo
  have nw := O.notW R.bdk eo
  have nx : ∀ φ, H a ≠ some (.ext φ) := fun φ z => by
    rw [eo] at w
    rcases hy with ⟨_, rfl⟩ | ⟨_, rfl⟩ | ⟨_, _, _, rfl⟩
    · obtain ⟨_, _, e2, _⟩ := w
      rw [z] at e2
      cases e2
    · obtain ⟨_, _, e2, _⟩ := w
      rw [z] at e2
      cases e2
    · obtain ⟨_, _, _, _, _, _, e2, _⟩ := w
      rw [z] at e2
      cases e2
  have nb : ∀ b u, B.H b = some u → b ≠ a := fun b u e z => by rw [z, b0] at e; cases e
  refine ⟨⟨R.base.ff, fun b u e => ?_, fun b u e n nt' => ?_, R.base.new, fun b n => upd_keep (R.base.keep b n)⟩, R.bdk, R.deck.keep (fun _ _ => rfl) (fun b z => upd_ne fun e => nw (by rw [← e]; exact z)) (fun b φ e => by rw [upd_ne (fun z => nx φ (by rw [← z]; exact e))]; exact e) R.deck.nf (ot_upd nt), by rw [List.length_set]; exact R.len, own, O, fun j y' u e1 e2 => ?_⟩
  · have z : b ≠ a := fun z => by rw [z, f0] at e; cases e
    rw [upd_ne z]
    exact R.ex b u e
  · rw [upd_ne (nb b u e)]
    exact R.base.hh b u e n nt'
  · by_cases z : j = i
    · subst z
      rw [List.getElem?_set_self hi] at e1
      cases e1
      rw [hs] at e2
      cases e2
      rw [eo]
      exact h
    · rw [List.getElem?_set_ne (Ne.symm z)] at e1
      refine (q j y' u e1 e2).mono (Same.refl F) fun c o' e k _ => ?_
      have nc : c ≠ a := fun z' => z (O.inj j i c e (by rw [z']; exact eo))
      rw [upd_ne nc]
      exact k
/-- an object of one's own becomes data -/
theorem Rel.freeze (R : Rel B K σ s F H) {i : Nat} {a : Addr} {o : HO} {y : SV} {x : D} (hx : σ[i]? = some y) (hs : s[i]? = some (some (.ref a))) (ha : H a = some o) (hf : F a = none) (hb : B.H a = none) (hw : ¬ InW B.W a) (hy : (∃ xs, y = .ol xs) ∨ (∃ ks, y = .od ks) ∨ ∃ p n fs, y = .oo p n fs)
    (h : Rep K (upd F a o) (.ref a) x) (nt : NT o := by intro _ z; cases z) : Rel B K (σ.set i (.d x)) s (upd F a o) H := by
  obtain ⟨own, O, q⟩ := R.slots
  have hi : i < σ.length := (List.getElem?_eq_some_iff.mp hx).1
  have w := q i _ _ hx hs
  have eo : own i = some a := by
    cases e : own i with
    | none =>
      rw [e] at w
      rcases hy with ⟨_, rfl⟩ | ⟨_, rfl⟩ | ⟨_, _, _, rfl⟩ <;> exact False.elim w
    | some b =>
      rw [e] at w
      rcases hy with ⟨_, rfl⟩ | ⟨_, rfl⟩ | ⟨_, _, _, rfl⟩
      · obtain ⟨e2, _⟩ := w
        cases e2
        rfl
      · obtain ⟨e2, _⟩ := w
        cases e2
        rfl
      · obtain ⟨_, e2, _⟩ := w
        cases e2
        rfl
  have sm : Same F (upd F a o) := same_new hf
  refine ⟨⟨R.base.ff.trans sm, fun b u e => ?_, R.base.hh, fun b e n => ?_, R.base.keep⟩, R.bdk, R.deck.keep (fun b z => upd_ne fun e => hw (by rw [← e]; exact z)) (fun _ _ => rfl) (fun _ _ e => e) (nf_upd R.deck.nf nt) fun _ _ e => e, by rw [List.length_set]; exact R.len,
    fun j => if j = i then none else own j, ⟨fun b c d e1 e2 => ?_, fun b c e => ?_⟩, fun j y' u e1 e2 => ?_⟩
  · by_cases z : b = a
    · subst z
      rw [upd_same] at e
      rw [ha]
      exact e
    · rw [upd_ne z] at e
      exact R.ex b u e
  · have z : b ≠ a := fun z => n (by rw [z]; exact hb)
    rw [upd_ne z]
    exact R.base.new b e n
  · split at e1 <;> split at e2 <;> first | exact O.inj b c d e1 e2 | cases e1 | cases e2
  · split at e
    · cases e
    · rename_i nz
      obtain ⟨h1, h2⟩ := O.free b c e
      refine ⟨h1, ?_⟩
      have z : c ≠ a := fun z => nz (O.inj b i c e (by rw [z]; exact eo))
      rw [upd_ne z]
      exact h2
  · by_cases z : j = i
    · subst z
      rw [List.getElem?_set_self hi] at e1
      cases e1
      rw [hs] at e2
      cases e2
      dsimp only
      rw [if_pos rfl]
      exact h
    · rw [List.getElem?_set_ne (Ne.symm z)] at e1
      dsimp only
      rw [if_neg z]
      exact (q j y' u e1 e2).mono sm fun _ _ _ k _ => k
end
end ND

/-! ND2: expressions -/
namespace ND
open PySem PySem.Spec L2

/-! ### judgements -/
abbrev _root_.L2.Cx.kn (X : Cx) : Kn := ⟨X.K, X.mg⟩
abbrev GE := List SV → (D → Prop) → Prop
abbrev GT := List SV → (Bool → Prop) → Prop
abbrev GA := List SV → (List D → Prop) → Prop
/-- what is borrowed: data, or an object of one's own as it stands -/
def RepB (W : WT) (K : Kn) (F H : Hp) (v : V) (d : D) : Prop :=
  Rep K F v d ∨ (∃ a ds vs, v = .ref a ∧ d = .lst ds ∧ ¬ InW W a ∧ H a = some (.lst vs) ∧ Reps K F vs ds) ∨ ∃ a ds vs, v = .ref a ∧ d = .dic ds ∧ ¬ InW W a ∧ H a = some (.dK vs) ∧ RepKs K F vs ds
theorem RepB.grow {W : WT} {K : Kn} {F H F' H' : Hp} {v : V} {d : D} (h : RepB W K F H v d) (g : Grow W F H F' H') : RepB W K F' H' v d := by
  rcases h with h | ⟨a, ds, vs, e1, e2, n, e3, r⟩ | ⟨a, ds, vs, e1, e2, n, e3, r⟩
  · exact .inl (h.mono g.ff)
  · exact .inr (.inl ⟨a, ds, vs, e1, e2, n, g.hh _ _ e3 n (by intro _ z; cases z), r.mono g.ff⟩)
  · exact .inr (.inr ⟨a, ds, vs, e1, e2, n, g.hh _ _ e3 n (by intro _ z; cases z), r.mono g.ff⟩)
theorem RepB.lst {W : WT} {K : Kn} {F H : Hp} {v : V} {ds : List D} (h : RepB W K F H v (.lst ds)) (e : Same F H) : ∃ a vs, v = .ref a ∧ H a = some (.lst vs) ∧ Reps K F vs ds := by
  rcases h with h | ⟨a, ds', vs, e1, e2, n, e3, r⟩ | ⟨a, ds', vs, e1, e2, n, e3, r⟩
  · cases h with
    | lst h r => exact ⟨_, _, rfl, e _ _ h, r⟩
  · cases e2
    exact ⟨a, vs, e1, e3, r⟩
  · cases e2
theorem RepB.dic {W : WT} {K : Kn} {F H : Hp} {v : V} {ds : List (Key × D)} (h : RepB W K F H v (.dic ds)) (e : Same F H) : ∃ a vs, v = .ref a ∧ H a = some (.dK vs) ∧ RepKs K F vs ds := by
  rcases h with h | ⟨a, ds', vs, e1, e2, n, e3, r⟩ | ⟨a, ds', vs, e1, e2, n, e3, r⟩
  · cases h with
    | dic h r => exact ⟨_, _, rfl, e _ _ h, r⟩
  · cases e2
  · cases e2
    exact ⟨a, vs, e1, e3, r⟩
theorem RepB.tup {W : WT} {K : Kn} {F H : Hp} {v : V} {ds : List D} (h : RepB W K F H v (.tup ds)) (e : Same F H) : ∃ a vs, v = .ref a ∧ SqT K.K F a vs ∧ SqT K.K H a vs ∧ Reps K F vs ds := by
  rcases h with h | ⟨a, ds', vs, e1, e2, n, e3, r⟩ | ⟨a, ds', vs, e1, e2, n, e3, r⟩
  · cases h with
    | tup h r => exact ⟨_, _, rfl, h, same_t e h, r⟩
  · cases e2
  · cases e2
theorem RepB.int {W : WT} {K : Kn} {F H : Hp} {v : V} {i : Int} (h : RepB W K F H v (.int i)) : v = .int i := by
  rcases h with h | ⟨a, ds', vs, e1, e2, n, e3, r⟩ | ⟨a, ds', vs, e1, e2, n, e3, r⟩
  · cases h
    rfl
  · cases e2
  · cases e2
theorem RepB.bl {W : WT} {K : Kn} {F H : Hp} {v : V} {i : Bool} (h : RepB W K F H v (.bl i)) : v = .bl i := by
  rcases h with h | ⟨a, ds', vs, e1, e2, n, e3, r⟩ | ⟨a, ds', vs, e1, e2, n, e3, r⟩
  · cases h
    rfl
  · cases e2
  · cases e2
theorem RepB.str {W : WT} {K : Kn} {F H : Hp} {v : V} {i : Str} (h : RepB W K F H v (.str i)) : v = .str i := by
  rcases h with h | ⟨a, ds', vs, e1, e2, n, e3, r⟩ | ⟨a, ds', vs, e1, e2, n, e3, r⟩
  · cases h
    rfl
  · cases e2
  · cases e2
theorem RepB.non {W : WT} {K : Kn} {F H : Hp} {v : V} (h : RepB W K F H v .non) : v = .non := by
  rcases h with h | ⟨a, ds', vs, e1, e2, n, e3, r⟩ | ⟨a, ds', vs, e1, e2, n, e3, r⟩
  · cases h
    rfl
  · cases e2
  · cases e2
theorem RepB.opq {W : WT} {K : Kn} {F H : Hp} {v u : V} (h : RepB W K F H v (.opq u)) : v = u := by
  rcases h with h | ⟨a, ds', vs, e1, e2, n, e3, r⟩ | ⟨a, ds', vs, e1, e2, n, e3, r⟩
  · cases h
    rfl
  · cases e2
  · cases e2
theorem RepB.obj {W : WT} {K : Kn} {F H : Hp} {v : V} {n : Str} {ds : List (Str × D)} (h : RepB W K F H v (.obj n ds)) (e : Same F H) : ∃ a C dx fs, K.mg n = some (.ref C) ∧ v = .ref a ∧ H a = some (.ins C dx fs) ∧ RepFs K F fs ds := by
  rcases h with h | ⟨a, ds', vs, e1, e2, n, e3, r⟩ | ⟨a, ds', vs, e1, e2, n, e3, r⟩
  · cases h with
    | obj n h r => exact ⟨_, _, _, _, n, rfl, e _ _ h, r⟩
  · cases e2
  · cases e2

/-- the data Qd are wanted: so is Q of each value that is one of them -/
def Fin (B : Bs) (K : Kn) (F H : Hp) (Qd : D → Prop) (Q : VK) : Prop := ∀ d, Qd d → ∀ F' H' v, Grow B.W F H F' H' → DeckIn B.W F' H' → Rep K F' v d → Q v H'
def FinB (B : Bs) (K : Kn) (F H : Hp) (Qd : D → Prop) (Q : VK) : Prop := ∀ d, Qd d → ∀ F' H' v, Grow B.W F H F' H' → DeckIn B.W F' H' → RepB B.W K F' H' v d → Q v H'
def FinT (B : Bs) (F H : Hp) (Qd : Bool → Prop) (Q : Bool → Hp → Prop) : Prop := ∀ b, Qd b → ∀ F' H', Grow B.W F H F' H' → DeckIn B.W F' H' → Q b H'
def FinA (B : Bs) (K : Kn) (F H : Hp) (Qd : List D → Prop) (Q : List V → Hp → Prop) : Prop := ∀ ds, Qd ds → ∀ F' H' vs, Grow B.W F H F' H' → DeckIn B.W F' H' → Reps K F' vs ds → Q vs H'
inductive RepBs (W : WT) (K : Kn) (F H : Hp) : List V → List D → Prop
  | nil : RepBs W K F H [] []
  | cons {v : V} {vs : List V} {d : D} {ds : List D} : RepB W K F H v d → RepBs W K F H vs ds → RepBs W K F H (v :: vs) (d :: ds)
def FinAB (B : Bs) (K : Kn) (F H : Hp) (Qd : List D → Prop) (Q : List V → Hp → Prop) : Prop := ∀ ds, Qd ds → ∀ F' H' vs, Grow B.W F H F' H' → DeckIn B.W F' H' → RepBs B.W K F' H' vs ds → Q vs H'
/-- a new list, not frozen yet -/
def FinF (B : Bs) (K : Kn) (F H : Hp) (Qd : List D → Prop) (Q : VK) : Prop := ∀ ds, Qd ds → ∀ F' H' p vs, Grow B.W F H F' H' → DeckIn B.W F' H' → H p = none → F' p = none → H' p = some (.lst vs) → Reps K F' vs ds → Q (.ref p) H'

def LE (B : Bs) (K : Kn) (f : GE) : TE := fun s H Q => ∃ σ F Qd, Rel B K σ s F H ∧ f σ Qd ∧ Fin B K F H Qd Q
def LB (B : Bs) (K : Kn) (f : GE) : TE := fun s H Q => ∃ σ F Qd, Rel B K σ s F H ∧ f σ Qd ∧ FinB B K F H Qd Q
def LF (B : Bs) (K : Kn) (f : GA) : TE := fun s H Q => ∃ σ F Qd, Rel B K σ s F H ∧ f σ Qd ∧ FinF B K F H Qd Q
def LT (B : Bs) (K : Kn) (f : GT) : TT := fun s H Q => ∃ σ F Qd, Rel B K σ s F H ∧ f σ Qd ∧ FinT B F H Qd Q
def LA (B : Bs) (K : Kn) (f : GA) : TA := fun s H Q => ∃ σ F Qd, Rel B K σ s F H ∧ f σ Qd ∧ FinA B K F H Qd Q
def LAB (B : Bs) (K : Kn) (f : GA) : TA := fun s H Q => ∃ σ F Qd, Rel B K σ s F H ∧ f σ Qd ∧ FinAB B K F H Qd Q
/-- an expression gives data | may be borrowed | gives a new list | a test | arguments -/
structure ED (B : Bs) (X : Cx) (e : Expr) (f : GE) : Prop where
  run : PE X e (LE B X.kn f)
structure BD (B : Bs) (X : Cx) (e : Expr) (f : GE) : Prop where
  run : PE X e (LB B X.kn f)
structure FD (B : Bs) (X : Cx) (e : Expr) (f : GA) : Prop where
  run : PE X e (LF B X.kn f)
structure TD (B : Bs) (X : Cx) (e : Expr) (f : GT) : Prop where
  run : PT X e (LT B X.kn f)
structure WDd (B : Bs) (X : Cx) (e : Expr) (f : GT) : Prop where
  run : PW X e (LT B X.kn f)
structure AD (B : Bs) (X : Cx) (es : List Expr) (f : GA) : Prop where
  run : PA X es (LA B X.kn f)
structure ABD (B : Bs) (X : Cx) (es : List Expr) (f : GA) : Prop where
  run : PA X es (LAB B X.kn f)

theorem pe_imp {X : Cx} {e : Expr} {t t' : TE} (h : PE X e t) (w : ∀ s H Q, t' s H Q → t s H Q) : PE X e t' := ⟨fun pins s σ H Q I q => h.run pins s σ H Q I (w _ _ _ q)⟩
theorem pt_imp {X : Cx} {e : Expr} {t t' : TT} (h : PT X e t) (w : ∀ s H Q, t' s H Q → t s H Q) : PT X e t' := ⟨fun pins s σ H Q I q => h.run pins s σ H Q I (w _ _ _ q)⟩
theorem pw_imp {X : Cx} {e : Expr} {t t' : TT} (h : PW X e t) (w : ∀ s H Q, t' s H Q → t s H Q) : PW X e t' := ⟨fun wh pins s σ H Q I q => h.run wh pins s σ H Q I (w _ _ _ q)⟩
theorem pa_imp {X : Cx} {e : List Expr} {t t' : TA} (h : PA X e t) (w : ∀ s H Q, t' s H Q → t s H Q) : PA X e t' := ⟨fun pos pins s σ H Q I q => h.run pos pins s σ H Q I (w _ _ _ q)⟩

section
variable {B : Bs} {X : Cx} {e a b c : Expr} {es : List Expr} {f fa fb fc : GE} {pos : Pos}
theorem Fin.more {K : Kn} {F H F' H' : Hp} {Qd : D → Prop} {Q : VK} (h : Fin B K F H Qd Q) (g : Grow B.W F H F' H') : Fin B K F' H' Qd Q := fun d q F2 H2 v g2 dk r => h d q F2 H2 v (g.trans g2) dk r
theorem FinB.more {K : Kn} {F H F' H' : Hp} {Qd : D → Prop} {Q : VK} (h : FinB B K F H Qd Q) (g : Grow B.W F H F' H') : FinB B K F' H' Qd Q := fun d q F2 H2 v g2 dk r => h d q F2 H2 v (g.trans g2) dk r
theorem FinT.more {F H F' H' : Hp} {Qd : Bool → Prop} {Q : Bool → Hp → Prop} (h : FinT B F H Qd Q) (g : Grow B.W F H F' H') : FinT B F' H' Qd Q := fun d q F2 H2 g2 dk => h d q F2 H2 (g.trans g2) dk
theorem FinA.more {K : Kn} {F H F' H' : Hp} {Qd : List D → Prop} {Q : List V → Hp → Prop} (h : FinA B K F H Qd Q) (g : Grow B.W F H F' H') : FinA B K F' H' Qd Q := fun d q F2 H2 v g2 dk r => h d q F2 H2 v (g.trans g2) dk r
theorem FinAB.more {K : Kn} {F H F' H' : Hp} {Qd : List D → Prop} {Q : List V → Hp → Prop} (h : FinAB B K F H Qd Q) (g : Grow B.W F H F' H') : FinAB B K F' H' Qd Q := fun d q F2 H2 v g2 dk r => h d q F2 H2 v (g.trans g2) dk r
theorem FinF.more {K : Kn} {F H F' H' : Hp} {Qd : List D → Prop} {Q : VK} (h : FinF B K F H Qd Q) (g : Grow B.W F H F' H') : FinF B K F' H' Qd Q := fun d q F2 H2 p vs g2 dk hp fp e r => h d q F2 H2 p vs (g.trans g2) dk (g.back hp) fp e r
/-- a list just laid -/
theorem FinF.laid {K : Kn} {F H : Hp} {Qd : List D → Prop} {Q : VK} (h : FinF B K F H Qd Q) (e : Same F H) (dk : DeckIn B.W F H) {ds : List D} {p : Addr} {vs : List V} (q : Qd ds) (hp : H p = none) (r : Reps K F vs ds) : Q (.ref p) (upd H p (.lst vs)) :=
  h ds q F _ p vs (Grow.laid e hp) (dk.laid hp) hp (e.free hp) upd_same r

theorem ED.toB (h : ED B X e f) : BD B X e f := ⟨pe_imp h.run fun s H Q ⟨σ, F, Qd, R, q, k⟩ => ⟨σ, F, Qd, R, q, fun d qd F' H' v g dk r => k d qd F' H' v g dk (.inl r)⟩⟩
/-- a new list becomes data -/
@[simp] def gFrz (f : GA) (σ : List SV) (Q : D → Prop) : Prop := f σ fun ds => Q (.lst ds)
theorem fin_frz {K : Kn} {F H : Hp} {Qd : D → Prop} {Q : VK} (d0 : DeckIn B.W F H) (k : Fin B K F H Qd Q) : FinF B K F H (fun ds => Qd (.lst ds)) Q := fun ds qd F' H' p vs g dk hp fp e r =>
  k _ qd _ _ _ (g.freeze hp fp e) (d0.freeze dk hp) (.lst upd_same (r.mono (same_new fp)))
theorem FD.toE {f : GA} (h : FD B X e f) : ED B X e (gFrz f) := ⟨pe_imp h.run fun s H Q ⟨σ, F, Qd, R, q, k⟩ => ⟨σ, F, fun ds => Qd (.lst ds), R, q, fin_frz R.deck k⟩⟩
theorem FD.toB {f : GA} (h : FD B X e f) : BD B X e (gFrz f) := h.toE.toB

/-! ### names, constants -/
@[simp] def gVar (i : Nat) (σ : List SV) (Q : D → Prop) : Prop := match σ[i]? with | some (.d x) => Q x | _ => False
@[simp] def gVarB (i : Nat) (σ : List SV) (Q : D → Prop) : Prop := match σ[i]? with | some (.d x) => Q x | some (.ol xs) => Q (.lst xs) | some (.od ks) => Q (.dic ks) | _ => False
@[simp] def gC (d : D) (_ : List SV) (Q : D → Prop) : Prop := Q d
theorem ed_var (i : Nat) {x : Str} (h : PE X (.Name x pos) (tVar i)) : ED B X (.Name x pos) (gVar i) := ⟨pe_imp h fun s H Q ⟨σ, F, Qd, R, q, k⟩ => by
  unfold gVar at q
  split at q
  · rename_i x e
    obtain ⟨v, h1, h2⟩ := R.dat e
    exact ⟨v, h1, k _ q F H v (Grow.refl R.ex) R.deck h2⟩
  · exact q.elim⟩
theorem bd_var (i : Nat) {x : Str} (h : PE X (.Name x pos) (tVar i)) : BD B X (.Name x pos) (gVarB i) := ⟨pe_imp h fun s H Q ⟨σ, F, Qd, R, q, k⟩ => by
  unfold gVarB at q
  split at q
  · rename_i x e
    obtain ⟨v, h1, h2⟩ := R.dat e
    exact ⟨v, h1, k _ q F H v (Grow.refl R.ex) R.deck (.inl h2)⟩
  · rename_i xs e
    obtain ⟨a, vs, h1, h2, h3, h4, _⟩ := R.ownL e
    exact ⟨.ref a, h1, k _ q F H _ (Grow.refl R.ex) R.deck (.inr (.inl ⟨a, xs, vs, rfl, rfl, h4, h2, h3⟩))⟩
  · rename_i xs e
    obtain ⟨a, vs, h1, h2, h3, h4, _⟩ := R.ownD e
    exact ⟨.ref a, h1, k _ q F H _ (Grow.refl R.ex) R.deck (.inr (.inr ⟨a, xs, vs, rfl, rfl, h4, h2, h3⟩))⟩
  · exact q.elim⟩
/-- a value that is known -/
theorem ed_c {v : V} {d : D} (h : PE X e (tC v)) (r : ∀ F, Rep X.kn F v d) : ED B X e (gC d) := ⟨pe_imp h fun s H Q ⟨σ, F, Qd, R, q, k⟩ => k d q F H v (Grow.refl R.ex) R.deck (r F)⟩
theorem ed_int {i : Int} {j : Nat} : ED B X (.Constant (.int i) j pos) (gC (.int i)) := ed_c pe_int fun _ => .int i
theorem ed_bl {i : Bool} {j : Nat} : ED B X (.Constant (.bool i) j pos) (gC (.bl i)) := ed_c pe_bl fun _ => .bl i
theorem ed_non {j : Nat} : ED B X (.Constant .none j pos) (gC .non) := ed_c pe_non fun _ => .non
theorem ed_str {x : Str} {j : Nat} : ED B X (.Constant (.str x) j pos) (gC (.str x)) := ed_c pe_str fun _ => .str x

/-! ### two in a row -/
theorem lb_two {K : Kn} {s : L2.St} {σ : List SV} {F H : Hp} {R2 : V → V → Hp → Prop} {Qd : D → D → Prop} (R : Rel B K σ s F H) (q : fa σ fun x => fb σ fun y => Qd x y)
    (k : ∀ x y F' H' v u, Qd x y → Grow B.W F H F' H' → DeckIn B.W F' H' → RepB B.W K F' H' v x → RepB B.W K F' H' u y → R2 v u H') : LB B K fa s H fun v H1 => LB B K fb s H1 fun u H2 => R2 v u H2 :=
  ⟨σ, F, _, R, q, fun x qx F1 H1 v g1 d1 r1 => ⟨σ, F1, _, R.grow g1 d1, qx, fun y qy F2 H2 u g2 d2 r2 => k x y F2 H2 v u qy (g1.trans g2) d2 (r1.grow g2) r2⟩⟩
/-- an operation on values, by data -/
def LO2 (B : Bs) (K : Kn) (g : D → D → (D → Prop) → Prop) : R2 := fun v u H Q => ∃ F x y Qd, Same F H ∧ DeckIn B.W F H ∧ RepB B.W K F H v x ∧ RepB B.W K F H u y ∧ g x y Qd ∧ Fin B K F H Qd Q
def LO1 (B : Bs) (K : Kn) (g : D → (D → Prop) → Prop) : V → Hp → VK → Prop := fun v H Q => ∃ F x Qd, Same F H ∧ DeckIn B.W F H ∧ RepB B.W K F H v x ∧ g x Qd ∧ Fin B K F H Qd Q
@[simp] def gBin (g : D → D → (D → Prop) → Prop) (fa fb : GE) (σ : List SV) (Q : D → Prop) : Prop := fa σ fun x => fb σ fun y => g x y Q
@[simp] def gUn (g : D → (D → Prop) → Prop) (fa : GE) (σ : List SV) (Q : D → Prop) : Prop := fa σ fun x => g x Q
variable {g : D → D → (D → Prop) → Prop}
theorem lo2_of {K : Kn} {s : L2.St} {σ : List SV} {F H : Hp} {Qd : D → Prop} {Q : VK} (R : Rel B K σ s F H) (q : gBin g fa fb σ Qd) (k : Fin B K F H Qd Q) : tOp (LO2 B K g) (LB B K fa) (LB B K fb) s H Q :=
  lb_two (Qd := fun x y => g x y Qd) R q fun x y F' H' v u q g' d r1 r2 => ⟨F', x, y, Qd, g'.fh, d, r1, r2, q, k.more g'⟩
theorem ed_bin {op : Operator} (ho : OpR X (binaryOp op) (LO2 B X.kn g)) (ha : BD B X a fa) (hb : BD B X b fb) : ED B X (.BinOp a op b pos) (gBin g fa fb) :=
  ⟨pe_imp (pe_op ho ha.run hb.run) fun s H Q ⟨σ, F, Qd, R, q, k⟩ => lo2_of R q k⟩
theorem ed_un {op : UnaryOp} {g : D → (D → Prop) → Prop} (ho : UnR X (unaryOp op) (LO1 B X.kn g)) (ha : BD B X a fa) : ED B X (.UnaryOp op a pos) (gUn g fa) :=
  ⟨pe_imp (pe_un ho ha.run) fun s H Q ⟨σ, F, Qd, R, q, k⟩ => ⟨σ, F, _, R, q, fun x qx F1 H1 v g1 d1 r1 => ⟨F1, x, Qd, g1.fh, d1, r1, qx, k.more g1⟩⟩⟩
theorem opR_imp {f : Value → Value → Sem Value} {r r' : R2} (h : OpR X f r) (w : ∀ v u H Q, r' v u H Q → r v u H Q) : OpR X f r' := fun pins s σ H x y v u Q I rx ry q => h pins s σ H x y v u Q I rx ry (w _ _ _ _ q)
theorem opR_by {f : Value → Value → Sem Value} {r' : R2} (w : ∀ v u H Q, r' v u H Q → ∃ r, OpR X f r ∧ r v u H Q) : OpR X f r' := fun pins s σ H x y v u Q I rx ry q => by
  obtain ⟨r, h, q'⟩ := w _ _ _ _ q
  exact h pins s σ H x y v u Q I rx ry q'
theorem unR_by {f : Value → Sem Value} {r' : V → Hp → VK → Prop} (w : ∀ v H Q, r' v H Q → ∃ r, UnR X f r ∧ r v H Q) : UnR X f r' := fun pins s σ H x v Q I rx q => by
  obtain ⟨r, h, q'⟩ := w _ _ _ q
  exact h pins s σ H x v Q I rx q'
theorem Fin.here {K : Kn} {F H : Hp} {Qd : D → Prop} {Q : VK} (k : Fin B K F H Qd Q) (e : Same F H) (dk : DeckIn B.W F H) {d : D} {v : V} (q : Qd d) (r : Rep K F v d) : Q v H := k d q F H v (Grow.refl e) dk r
theorem Fin.frz {K : Kn} {F H : Hp} {Qd : D → Prop} {Q : VK} (k : Fin B K F H Qd Q) (e : Same F H) (dk : DeckIn B.W F H) {d : D} {p : Addr} {o : HO} (q : Qd d) (hp : H p = none) (r : Rep K (upd F p o) (.ref p) d) (nt : NT o := by intro _ z; cases z) : Q (.ref p) (upd H p o) :=
  k d q _ _ _ (Grow.frz e hp) (dk.frz hp nt) r

/-! ### arithmetic -/
/-- integers that may be multiplied -/
def MulOk (i j : Int) : Prop := i.natAbs.log2 + j.natAbs.log2 < 1000000
def DivOk (j : Int) : Prop := j ≠ 0 ∧ j.natAbs.log2 < 9000
def addD : D → D → (D → Prop) → Prop
  | .int i, .int j, Q => Q (.int (i + j))
  | .str i, .str j, Q => i.length + j.length ≤ sizeLine ∧ Q (.str (i ++ j))
  | .tup xs, .tup ys, Q => xs.length + ys.length ≤ sizeLine ∧ Q (.tup (xs ++ ys))
  | .lst xs, .lst ys, Q => xs.length + ys.length ≤ sizeLine ∧ Q (.lst (xs ++ ys))
  | _, _, _ => False
def subD : D → D → (D → Prop) → Prop
  | .int i, .int j, Q => Q (.int (i - j))
  | _, _, _ => False
def mulD : D → D → (D → Prop) → Prop
  | .int i, .int j, Q => MulOk i j ∧ Q (.int (i * j))
  | .lst xs, .int k, Q => 0 ≤ k ∧ k < 2 ^ 63 ∧ xs.length * k.toNat ≤ sizeLine ∧ Q (.lst (List.replicate k.toNat xs).flatten)
  | _, _, _ => False
/-- floors: by a positive divisor as Lean's / and % -/
def fdivD : D → D → (D → Prop) → Prop
  | .int i, .int j, Q => 0 < j ∧ j.natAbs.log2 < 9000 ∧ Q (.int (i / j))
  | _, _, _ => False
def modD : D → D → (D → Prop) → Prop
  | .int i, .int j, Q => 0 < j ∧ Q (.int (i % j))
  | _, _, _ => False
def powD : D → D → (D → Prop) → Prop
  | .int i, .int j, Q => 0 ≤ j ∧ j ≤ 1000000 ∧ i.natAbs < 2 ^ 64 ∧ Q (.int (i ^ j.toNat))
  | _, _, _ => False
def shlD : D → D → (D → Prop) → Prop
  | .int i, .int j, Q => 0 ≤ j ∧ j ≤ 1000000 ∧ i.natAbs < 2 ^ 64 ∧ Q (.int (i * 2 ^ j.toNat))
  | _, _, _ => False
def andD : D → D → (D → Prop) → Prop
  | .int i, .int j, Q => Q (.int (Builtin.bitAnd i j))
  | _, _, _ => False
def xorD : D → D → (D → Prop) → Prop
  | .int i, .int j, Q => Q (.int (Builtin.bitXor i j))
  | _, _, _ => False
def negD : D → (D → Prop) → Prop
  | .int i, Q => Q (.int (-i))
  | _, _ => False
theorem o_add : OpR X (binaryOp .Add) (LO2 B X.kn addD) := opR_by fun v u H Q ⟨F, x, y, Qd, e, dk, r1, r2, q, k⟩ => by
  unfold addD at q
  split at q
  · exact ⟨_, op_add, _, _, r1.int, r2.int, k.here e dk q (.int _)⟩
  · exact ⟨_, op_add_str, _, _, r1.str, r2.str, q.1, k.here e dk q.2 (.str _)⟩
  · obtain ⟨a, vs, rfl, f1, h1, s1⟩ := r1.tup e
    obtain ⟨b, us, rfl, f2, h2, s2⟩ := r2.tup e
    refine ⟨_, op_catA, a, b, vs, us, rfl, rfl, h1, h2, by rw [s1.length, s2.length]; exact q.1, ?_⟩
    have z := s1.append s2
    refine ⟨fun w => ?_, fun w1 w => ?_, fun w1 w2 p hp => ?_⟩
    · subst w
      cases s1
      exact k.here e dk q.2 (.tup f2 (by simpa using s2))
    · subst w
      cases s2
      exact k.here e dk q.2 (.tup f1 (by simpa using s1))
    · exact k.frz e dk q.2 hp (.tup (SqT.of upd_same) (z.mono (same_new (e.free hp))))
  · obtain ⟨a, vs, rfl, h1, s1⟩ := r1.lst e
    obtain ⟨b, us, rfl, h2, s2⟩ := r2.lst e
    exact ⟨_, op_cat, a, b, vs, us, rfl, rfl, h1, h2, by rw [s1.length, s2.length]; exact q.1, fun p hp => k.frz e dk q.2 hp (.lst upd_same ((s1.append s2).mono (same_new (e.free hp))))⟩
  · exact q.elim
end
end ND

/-! ND3: operators, comparisons, truth, displays, items, slices -/
namespace ND
open PySem PySem.Spec L2
section
variable {B : Bs} {X : Cx} {e a b c : Expr} {es : List Expr} {f fa fb fc : GE} {pos : Pos}
theorem o_sub : OpR X (binaryOp .Sub) (LO2 B X.kn subD) := opR_by fun v u H Q ⟨F, x, y, Qd, e, dk, r1, r2, q, k⟩ => by
  unfold subD at q
  split at q
  · exact ⟨_, op_sub, _, _, r1.int, r2.int, k.here e dk q (.int _)⟩
  · exact q.elim
theorem Reps.rep {K : Kn} {F : Hp} {vs : List V} {ds : List D} (h : Reps K F vs ds) : ∀ n : Nat, Reps K F (List.replicate n vs).flatten (List.replicate n ds).flatten
  | 0 => .nil
  | n + 1 => by
    rw [List.replicate_succ, List.replicate_succ, List.flatten_cons, List.flatten_cons]
    exact h.append (Reps.rep h n)
theorem o_mul : OpR X (binaryOp .Mult) (LO2 B X.kn mulD) := opR_by fun v u H Q ⟨F, x, y, Qd, e, dk, r1, r2, q, k⟩ => by
  unfold mulD at q
  split at q
  · exact ⟨_, op_mulW, _, _, r1.int, r2.int, q.1, k.here e dk q.2 (.int _)⟩
  · obtain ⟨a, vs, rfl, h1, s1⟩ := r1.lst e
    obtain ⟨q0, q1, q2, q3⟩ := q
    have := s1.length
    exact ⟨_, op_rep, a, _, vs, rfl, r2.int, h1, by omega, q1, by rw [this]; exact q2, fun p hp => k.frz e dk q3 hp (.lst upd_same ((s1.rep _).mono (same_new (e.free hp))))⟩
  · exact q.elim
theorem o_fdiv : OpR X (binaryOp .FloorDiv) (LO2 B X.kn fdivD) := opR_by fun v u H Q ⟨F, x, y, Qd, e, dk, r1, r2, q, k⟩ => by
  unfold fdivD at q
  split at q
  · exact ⟨_, op_fdivW, _, _, r1.int, r2.int, ⟨q.1, q.2.1⟩, k.here e dk q.2.2 (.int _)⟩
  · exact q.elim
theorem o_mod : OpR X (binaryOp .Mod) (LO2 B X.kn modD) := opR_by fun v u H Q ⟨F, x, y, Qd, e, dk, r1, r2, q, k⟩ => by
  unfold modD at q
  split at q
  · exact ⟨_, op_mod, _, _, r1.int, r2.int, q.1, k.here e dk q.2 (.int _)⟩
  · exact q.elim
theorem o_pow : OpR X (binaryOp .Pow) (LO2 B X.kn powD) := opR_by fun v u H Q ⟨F, x, y, Qd, e, dk, r1, r2, q, k⟩ => by
  unfold powD at q
  split at q
  · exact ⟨_, op_pow, _, _, r1.int, r2.int, ⟨q.1, q.2.1, q.2.2.1⟩, k.here e dk q.2.2.2 (.int _)⟩
  · exact q.elim
theorem o_shl : OpR X (binaryOp .LShift) (LO2 B X.kn shlD) := opR_by fun v u H Q ⟨F, x, y, Qd, e, dk, r1, r2, q, k⟩ => by
  unfold shlD at q
  split at q
  · exact ⟨_, op_shl, _, _, r1.int, r2.int, ⟨q.1, q.2.1, q.2.2.1⟩, k.here e dk q.2.2.2 (.int _)⟩
  · exact q.elim
theorem o_and : OpR X (binaryOp .BitAnd) (LO2 B X.kn andD) := opR_by fun v u H Q ⟨F, x, y, Qd, e, dk, r1, r2, q, k⟩ => by
  unfold andD at q
  split at q
  · exact ⟨_, op_and, _, _, r1.int, r2.int, k.here e dk q (.int _)⟩
  · exact q.elim
theorem o_xor : OpR X (binaryOp .BitXor) (LO2 B X.kn xorD) := opR_by fun v u H Q ⟨F, x, y, Qd, e, dk, r1, r2, q, k⟩ => by
  unfold xorD at q
  split at q
  · exact ⟨_, op_xor, _, _, r1.int, r2.int, k.here e dk q (.int _)⟩
  · exact q.elim
theorem o_neg : UnR X (unaryOp .USub) (LO1 B X.kn negD) := unR_by fun v H Q ⟨F, x, Qd, e, dk, r1, q, k⟩ => by
  unfold negD at q
  split at q
  · exact ⟨_, un_neg, _, r1.int, k.here e dk q (.int _)⟩
  · exact q.elim

/-! ### plain data and their equality -/
mutual
def toPy : D → PyData
  | .non => .none
  | .bl b => .bool b
  | .int i => .int i
  | .str x => .str x
  | .tup xs => .tuple (toPys xs)
  | .lst xs => .list (toPys xs)
  | .dic kvs => .dict (toPyK kvs)
  | .obj _ _ => .none
  | .opq _ => .none
def toPys : List D → List PyData
  | [] => []
  | x :: xs => toPy x :: toPys xs
def toPyK : List (Key × D) → List (PyData × PyData)
  | [] => []
  | (.inl i, x) :: xs => (.int i, toPy x) :: toPyK xs
  | (.inr i, x) :: xs => (.str i, toPy x) :: toPyK xs
end
/-! plain data: no dict, no object within, at most n deep -/
mutual
def pl : Nat → D → Bool
  | _, .non => true
  | _, .bl _ => true
  | _, .int _ => true
  | _, .str x => PyData.strOk x
  | 0, .tup _ => false
  | 0, .lst _ => false
  | n + 1, .tup xs => pls n xs
  | n + 1, .lst xs => pls n xs
  | _, .dic _ => false
  | _, .obj _ _ => false
  | _, .opq _ => false
def pls : Nat → List D → Bool
  | _, [] => true
  | n, x :: xs => pl n x && pls n xs
end
theorem toPys_map : ∀ xs : List D, toPys xs = xs.map toPy
  | [] => by simp [toPys]
  | x :: xs => by simp [toPys, toPys_map xs]
theorem pls_all (n : Nat) : ∀ xs : List D, pls n xs = xs.all (pl n)
  | [] => by simp [pls]
  | x :: xs => by simp [pls, pls_all n xs]
mutual
theorem pl_shape : ∀ (n : Nat) (d : D), pl n d = true → (toPy d).canLay0 = true ∧ (toPy d).depth ≤ n
  | n, .non, _ => by simp [toPy, PyData.canLay0, PyData.depth]
  | n, .bl b, _ => by simp [toPy, PyData.canLay0, PyData.depth]
  | n, .int b, _ => by simp [toPy, PyData.canLay0, PyData.depth]
  | n, .str x, h => by
    simp only [pl] at h
    simp [toPy, PyData.canLay0, PyData.depth, h]
  | 0, .tup xs, h => by simp [pl] at h
  | 0, .lst xs, h => by simp [pl] at h
  | n + 1, .tup xs, h => by
    simp only [pl] at h
    obtain ⟨h1, h2⟩ := pls_shape n xs h
    simp only [toPy, PyData.canLay0, PyData.depth]
    exact ⟨h1, by omega⟩
  | n + 1, .lst xs, h => by
    simp only [pl] at h
    obtain ⟨h1, h2⟩ := pls_shape n xs h
    simp only [toPy, PyData.canLay0, PyData.depth]
    exact ⟨h1, by omega⟩
  | n, .dic _, h => by simp [pl] at h
  | n, .obj _ _, h => by simp [pl] at h
  | n, .opq _, h => by simp [pl] at h
theorem pls_shape : ∀ (n : Nat) (d : List D), pls n d = true → PyData.canLayAll0 (toPys d) = true ∧ PyData.depthAll (toPys d) ≤ n
  | n, [], _ => by simp [toPys, PyData.canLayAll0, PyData.depthAll]
  | n, x :: xs, h => by
    simp only [pls, Bool.and_eq_true] at h
    obtain ⟨h1, h2⟩ := pl_shape n x h.1
    obtain ⟨h3, h4⟩ := pls_shape n xs h.2
    simp only [toPys, PyData.canLayAll0, PyData.depthAll, Bool.and_eq_true]
    exact ⟨⟨h1, h3⟩, by omega⟩
end
theorem pl_shaped {d : D} (h : pl 64 d = true) : SeqAt.shaped (toPy d) = true := by
  obtain ⟨h1, h2⟩ := pl_shape 64 d h
  show ((toPy d).canLay0 && decide ((toPy d).depth ≤ 64)) = true
  rw [h1, decide_eq_true h2]
  rfl
mutual
theorem Rep.dp {K : Kn} {F H : Hp} (e : Same F H) : ∀ (n : Nat) (d : D) (v : V), pl n d = true → Rep K F v d → Dp K.K H v (toPy d)
  | _, .non, _, _, h => by cases h; simp only [toPy]; exact .non
  | _, .bl _, _, _, h => by cases h; simp only [toPy]; exact .bl _
  | _, .int _, _, _, h => by cases h; simp only [toPy]; exact .int _
  | _, .str _, _, _, h => by cases h; simp only [toPy]; exact .str _
  | 0, .tup _, _, p, h => by simp [pl] at p
  | 0, .lst _, _, p, h => by simp [pl] at p
  | n + 1, .tup xs, _, p, h => by
    simp only [pl] at p
    cases h with
    | tup h r =>
      simp only [toPy]
      exact .tup (same_t e h) (Reps.dp e n xs _ p r)
  | n + 1, .lst xs, _, p, h => by
    simp only [pl] at p
    cases h with
    | lst h r =>
      simp only [toPy]
      exact .lst (SqL.of (e _ _ h)) (Reps.dp e n xs _ p r)
  | _, .dic _, _, p, _ => by simp [pl] at p
  | _, .obj _ _, _, p, _ => by simp [pl] at p
  | _, .opq _, _, p, _ => by simp [pl] at p
theorem Reps.dp {K : Kn} {F H : Hp} (e : Same F H) : ∀ (n : Nat) (d : List D) (v : List V), pls n d = true → Reps K F v d → DpAll K.K H v (toPys d)
  | _, [], _, _, h => by cases h; simp only [toPys]; exact .nil
  | n, x :: xs, _, p, h => by
    simp only [pls, Bool.and_eq_true] at p
    cases h with
    | cons h1 h2 =>
      simp only [toPys]
      exact .cons (Rep.dp e n x _ p.1 h1) (Reps.dp e n xs _ p.2 h2)
end
theorem RepB.dp {W : WT} {K : Kn} {F H : Hp} {v : V} {d : D} (h : RepB W K F H v d) (e : Same F H) (p : pl 64 d = true) : Dp K.K H v (toPy d) := by
  rcases h with h | ⟨a, ds, vs, rfl, rfl, _, h, r⟩ | ⟨a, ds, vs, rfl, rfl, _, h, r⟩
  · exact h.dp e 64 d v p
  · simp only [pl] at p
    simp only [toPy]
    exact .lst (SqL.of h) (Reps.dp e 63 ds _ p r)
  · simp [pl] at p
/-- Python's == on plain data -/
def eqb (x y : D) : Bool := PyData.eqv (toPy x) (toPy y)
def eqD : D → D → (D → Prop) → Prop
  | .str a, .str b, Q => Q (.bl (decide (a = b)))
  | x, y, Q => pl 64 x = true ∧ pl 64 y = true ∧ Q (.bl (eqb x y))
def neD : D → D → (D → Prop) → Prop
  | .str a, .str b, Q => Q (.bl (!decide (a = b)))
  | x, y, Q => pl 64 x = true ∧ pl 64 y = true ∧ Q (.bl (!eqb x y))
theorem vstr {a b : Str} : decide (V.str a = V.str b) = decide (a = b) := by
  by_cases h : a = b
  · subst h; simp
  · rw [decide_eq_false h, decide_eq_false fun z => h (V.str.inj z)]
theorem o_eq (hu : X.A.units + 64 < cLine) : OpR X (compareOp .Eq) (LO2 B X.kn eqD) := opR_by fun v u H Q ⟨F, x, y, Qd, e, dk, r1, r2, q, k⟩ => by
  unfold eqD at q
  split at q
  · refine ⟨_, op_eq, ?_, ?_⟩
    · rw [r1.str, r2.str]; rfl
    · rw [r1.str, r2.str, vstr]; exact k.here e dk q (.bl _)
  · exact ⟨_, op_eqD hu, _, _, r1.dp e q.1, r2.dp e q.2.1, pl_shaped q.1, pl_shaped q.2.1, k.here e dk q.2.2 (.bl _)⟩
theorem o_ne (hu : X.A.units + 64 < cLine) : OpR X (compareOp .NotEq) (LO2 B X.kn neD) := opR_by fun v u H Q ⟨F, x, y, Qd, e, dk, r1, r2, q, k⟩ => by
  unfold neD at q
  split at q
  · refine ⟨_, op_ne, ?_, ?_⟩
    · rw [r1.str, r2.str]; rfl
    · rw [r1.str, r2.str, vstr]; exact k.here e dk q (.bl _)
  · exact ⟨_, op_neD hu, _, _, r1.dp e q.1, r2.dp e q.2.1, pl_shaped q.1, pl_shaped q.2.1, k.here e dk q.2.2 (.bl _)⟩
/-- in: plain data in a tuple or a list of such; a sign in a text -/
def inb (x : D) (ys : List D) : Bool := ys.any fun z => eqb z x
def inD (neg : Bool) : D → D → (D → Prop) → Prop
  | x, .tup ys, Q => pl 64 x = true ∧ pl 64 (.tup ys) = true ∧ Q (.bl (if neg then !inb x ys else inb x ys))
  | x, .lst ys, Q => pl 64 x = true ∧ pl 64 (.lst ys) = true ∧ Q (.bl (if neg then !inb x ys else inb x ys))
  | .str x, .str y, Q => ∃ c, x = ⟨#[c]⟩ ∧ Q (.bl (if neg then !decide (c ∈ y.cps.toList) else decide (c ∈ y.cps.toList)))
  | _, _, _ => False
theorem any_toPy (x : D) : ∀ ys : List D, ((toPys ys).any fun z => PyData.eqv z (toPy x)) = inb x ys
  | [] => by simp [toPys, inb]
  | y :: ys => by
    have := any_toPy x ys
    simp only [toPys, List.any_cons, this, inb, eqb]
def rInT (K : PySem.W.Frag) (neg : Bool) : R2 := fun x y H Q => ∃ d ds, Dp K H x d ∧ Dp K H y (.tuple ds) ∧ SeqAt.shaped d = true ∧ SeqAt.shaped (.tuple ds) = true ∧ Q (.bl (if neg then !(ds.any fun z => PyData.eqv z d) else ds.any fun z => PyData.eqv z d)) H
theorem op_inTup (hu : X.A.units + 65 < cLine) : OpR X (compareOp .In) (rInT X.K false) := fun _ _ _ H one all v u _ I isOne isAll ⟨d, ds, dOne, dAll, okOne, okAll, q⟩ => by
  obtain ⟨⟨_, readsOne⟩, _, readsAll⟩ := And.intro (Dp.reads I d one v dOne isOne) (Dp.reads I (.tuple ds) all u dAll isAll)
  exact SeqAt.in_tuple_reads readsAll readsOne (SeqAt.canLay_of_shaped okAll) (SeqAt.canLay_of_shaped okOne) (PyProof.Rows.room_in_shaped okOne hu) ⟨.bl _, H, I, rfl, q⟩
theorem op_notInTup (hu : X.A.units + 65 < cLine) : OpR X (compareOp .NotIn) (rInT X.K true) := fun _ _ _ H one all v u _ I isOne isAll ⟨d, ds, dOne, dAll, okOne, okAll, q⟩ => by
  obtain ⟨⟨_, readsOne⟩, _, readsAll⟩ := And.intro (Dp.reads I d one v dOne isOne) (Dp.reads I (.tuple ds) all u dAll isAll)
  exact SeqAt.notIn_tuple_reads readsAll readsOne (SeqAt.canLay_of_shaped okAll) (SeqAt.canLay_of_shaped okOne) (PyProof.Rows.room_in_shaped okOne hu) ⟨.bl _, H, I, rfl, q⟩
theorem o_in (hu : X.A.units + 65 < cLine) : OpR X (compareOp .In) (LO2 B X.kn (inD false)) := opR_by fun v u H Q ⟨F, x, y, Qd, e, dk, r1, r2, q, k⟩ => by
  unfold inD at q
  split at q
  · have d2 := r2.dp e q.2.1
    have s2 := pl_shaped q.2.1
    simp only [toPy] at d2 s2
    exact ⟨_, op_inTup hu, _, _, r1.dp e q.1, d2, pl_shaped q.1, s2, by rw [any_toPy]; exact k.here e dk q.2.2 (.bl _)⟩
  · have d2 := r2.dp e q.2.1
    have s2 := pl_shaped q.2.1
    simp only [toPy] at d2 s2
    exact ⟨_, op_inD hu, _, _, r1.dp e q.1, d2, pl_shaped q.1, s2, by rw [any_toPy]; exact k.here e dk q.2.2 (.bl _)⟩
  · obtain ⟨c, rfl, q⟩ := q
    exact ⟨_, op_in_sign, c, _, r1.str, r2.str, k.here e dk q (.bl _)⟩
  · exact q.elim
theorem o_notIn (hu : X.A.units + 65 < cLine) : OpR X (compareOp .NotIn) (LO2 B X.kn (inD true)) := opR_by fun v u H Q ⟨F, x, y, Qd, e, dk, r1, r2, q, k⟩ => by
  unfold inD at q
  split at q
  · have d2 := r2.dp e q.2.1
    have s2 := pl_shaped q.2.1
    simp only [toPy] at d2 s2
    exact ⟨_, op_notInTup hu, _, _, r1.dp e q.1, d2, pl_shaped q.1, s2, by rw [any_toPy]; exact k.here e dk q.2.2 (.bl _)⟩
  · have d2 := r2.dp e q.2.1
    have s2 := pl_shaped q.2.1
    simp only [toPy] at d2 s2
    exact ⟨_, op_notInD hu, _, _, r1.dp e q.1, d2, pl_shaped q.1, s2, by rw [any_toPy]; exact k.here e dk q.2.2 (.bl _)⟩
  · obtain ⟨c, rfl, q⟩ := q
    exact ⟨_, op_notIn_sign, c, _, r1.str, r2.str, k.here e dk q (.bl _)⟩
  · exact q.elim

/-- is: with None, two bools -/
def isD (neg : Bool) : D → D → (D → Prop) → Prop
  | .opq _, _, _ => False
  | .non, .non, Q => Q (.bl (!neg))
  | .bl a, .bl b, Q => Q (.bl (if neg then !decide (a = b) else decide (a = b)))
  | _, .non, Q => Q (.bl neg)
  | _, _, _ => False
theorem rep_ne_non {K : Kn} {W : WT} {F H : Hp} {v : V} {d : D} (h : RepB W K F H v d) (n : d ≠ .non) (n2 : ∀ u, d ≠ .opq u) : decide (v = V.non) = false := by
  refine decide_eq_false fun z => ?_
  subst z
  rcases h with h | ⟨a, ds, vs, e, _⟩ | ⟨a, ds, vs, e, _⟩
  · cases h with
    | non => exact n rfl
    | opq => exact n2 _ rfl
  · cases e
  · cases e
theorem o_is : OpR X (compareOp .Is) (LO2 B X.kn (isD false)) := opR_by fun v u H Q ⟨F, x, y, Qd, e, dk, r1, r2, q, k⟩ => by
  unfold isD at q
  split at q
  · exact q.elim
  · exact ⟨_, op_isN, r2.non, by rw [r1.non]; exact k.here e dk q (.bl _)⟩
  · exact ⟨_, op_isBl, _, _, r1.bl, r2.bl, k.here e dk q (.bl _)⟩
  · exact ⟨_, op_isN, r2.non, by rw [rep_ne_non r1 (by assumption) (by assumption)]; exact k.here e dk q (.bl _)⟩
  · exact q.elim
theorem o_isNot : OpR X (compareOp .IsNot) (LO2 B X.kn (isD true)) := opR_by fun v u H Q ⟨F, x, y, Qd, e, dk, r1, r2, q, k⟩ => by
  unfold isD at q
  split at q
  · exact q.elim
  · exact ⟨_, op_notN, r2.non, by rw [r1.non]; exact k.here e dk q (.bl _)⟩
  · exact ⟨_, op_notBl, _, _, r1.bl, r2.bl, k.here e dk q (.bl _)⟩
  · exact ⟨_, op_notN, r2.non, by rw [rep_ne_non r1 (by assumption) (by assumption)]; exact k.here e dk q (.bl _)⟩
  · exact q.elim
def ltD : D → D → (D → Prop) → Prop
  | .int i, .int j, Q => Q (.bl (decide (i < j)))
  | .str i, .str j, Q => Q (.bl (decide (i.cps.toList < j.cps.toList)))
  | _, _, _ => False
def leD : D → D → (D → Prop) → Prop
  | .int i, .int j, Q => Q (.bl (decide (i ≤ j)))
  | .str i, .str j, Q => Q (.bl (!decide (j.cps.toList < i.cps.toList)))
  | _, _, _ => False
def gtD : D → D → (D → Prop) → Prop
  | .int i, .int j, Q => Q (.bl (decide (j < i)))
  | .str i, .str j, Q => Q (.bl (decide (j.cps.toList < i.cps.toList)))
  | _, _, _ => False
def geD : D → D → (D → Prop) → Prop
  | .int i, .int j, Q => Q (.bl (decide (j ≤ i)))
  | .str i, .str j, Q => Q (.bl (!decide (i.cps.toList < j.cps.toList)))
  | _, _, _ => False
theorem o_lt : OpR X (compareOp .Lt) (LO2 B X.kn ltD) := opR_by fun v u H Q ⟨F, x, y, Qd, e, dk, r1, r2, q, k⟩ => by
  unfold ltD at q
  split at q
  · exact ⟨_, op_lt, _, _, r1.int, r2.int, k.here e dk q (.bl _)⟩
  · exact ⟨_, op_lt_str, _, _, r1.str, r2.str, k.here e dk q (.bl _)⟩
  · exact q.elim
theorem o_le : OpR X (compareOp .LtE) (LO2 B X.kn leD) := opR_by fun v u H Q ⟨F, x, y, Qd, e, dk, r1, r2, q, k⟩ => by
  unfold leD at q
  split at q
  · exact ⟨_, op_le, _, _, r1.int, r2.int, k.here e dk q (.bl _)⟩
  · exact ⟨_, op_le_str, _, _, r1.str, r2.str, k.here e dk q (.bl _)⟩
  · exact q.elim
theorem o_gt : OpR X (compareOp .Gt) (LO2 B X.kn gtD) := opR_by fun v u H Q ⟨F, x, y, Qd, e, dk, r1, r2, q, k⟩ => by
  unfold gtD at q
  split at q
  · exact ⟨_, op_gt, _, _, r1.int, r2.int, k.here e dk q (.bl _)⟩
  · exact ⟨_, op_gt_str, _, _, r1.str, r2.str, k.here e dk q (.bl _)⟩
  · exact q.elim
theorem o_ge : OpR X (compareOp .GtE) (LO2 B X.kn geD) := opR_by fun v u H Q ⟨F, x, y, Qd, e, dk, r1, r2, q, k⟩ => by
  unfold geD at q
  split at q
  · exact ⟨_, op_ge, _, _, r1.int, r2.int, k.here e dk q (.bl _)⟩
  · exact ⟨_, op_ge_str, _, _, r1.str, r2.str, k.here e dk q (.bl _)⟩
  · exact q.elim

/-! ### comparisons as values and tests; truth; and, or, not -/
variable {g g' : D → D → (D → Prop) → Prop} {ft fu : GT} {rest : List Expr}
theorem ed_cmp {op : CmpOp} (ho : OpR X (compareOp op) (LO2 B X.kn g)) (ha : BD B X a fa) (hb : BD B X b fb) (hm : behindInMarks op b = false) : ED B X (.Compare a [op] [b] pos) (gBin g fa fb) :=
  ⟨pe_imp (pe_cmpR ho ha.run hb.run hm) fun s H Q ⟨σ, F, Qd, R, q, k⟩ => lo2_of R q k⟩
/-- a value that has to be a bool, as a test -/
def isBl (d : D) (Q : Bool → Prop) : Prop := ∃ b, d = .bl b ∧ Q b
@[simp] theorem isBl_b (b : Bool) (Q : Bool → Prop) : isBl (.bl b) Q ↔ Q b := ⟨fun ⟨_, e, q⟩ => by cases e; exact q, fun q => ⟨b, rfl, q⟩⟩
@[simp] def gB (f : GE) (σ : List SV) (Q : Bool → Prop) : Prop := f σ fun d => isBl d Q
theorem fin_b {K : Kn} {F H : Hp} {Qd : Bool → Prop} {Q : Bool → Hp → Prop} (k : FinT B F H Qd Q) : Fin B K F H (fun d => ∃ b, d = .bl b ∧ Qd b) fun x H' => ∃ b, x = .bl b ∧ Q b H' := fun d ⟨b, e, q⟩ F' H' v g dk r => by
  subst e
  cases r
  exact ⟨b, rfl, k b q F' H' g dk⟩
theorem td_cmp {op : CmpOp} (ho : OpR X (compareOp op) (LO2 B X.kn g)) (ha : BD B X a fa) (hb : BD B X b fb) (hm : behindInMarks op b = false) : TD B X (.Compare a [op] [b] pos) (gB (gBin g fa fb)) :=
  ⟨pt_imp (pt_cmpR ho ha.run hb.run hm) fun s H Q ⟨σ, F, Qd, R, q, k⟩ => lo2_of R q (fin_b k)⟩
@[simp] def gChain (g g' : D → D → (D → Prop) → Prop) (fa fb fc : GE) (σ : List SV) (Q : D → Prop) : Prop := fa σ fun x => fb σ fun y => g x y fun r => isBl r fun b => if b = true then fc σ fun z => g' y z Q else Q (.bl false)
theorem lo_chain {K : Kn} {s : L2.St} {σ : List SV} {F H : Hp} {Qd : D → Prop} {Q : VK} (R : Rel B K σ s F H) (q : gChain g g' fa fb fc σ Qd) (k : Fin B K F H Qd Q) : tChain (LO2 B K g) (LO2 B K g') (LB B K fa) (LB B K fb) (LB B K fc) s H Q := by
  refine lb_two (R2 := fun x y H2 => LO2 B K g x y H2 fun z H3 => ∃ k, z = .bl k ∧ (if k = true then LB B K fc s H3 fun w' H4 => LO2 B K g' y w' H4 Q else Q (.bl false) H3)) R q fun x y F1 H1 v u qq g1 dk r1 r2 => ?_
  refine ⟨F1, x, y, _, g1.fh, dk, r1, r2, qq, fun d ⟨b, e, q3⟩ F2 H2 w g2 dk2 r3 => ?_⟩
  subst e
  cases r3
  refine ⟨b, rfl, ?_⟩
  cases b with
  | false => exact k _ q3 F2 H2 _ (g1.trans g2) dk2 (.bl false)
  | true => exact ⟨σ, F2, _, R.grow (g1.trans g2) dk2, q3, fun z qz F3 H3 w3 g3 dk3 r4 => ⟨F3, y, z, Qd, g3.fh, dk3, r2.grow (g2.trans g3), r4, qz, k.more ((g1.trans g2).trans g3)⟩⟩
theorem ed_chain {op op' : CmpOp} (ho : OpR X (compareOp op) (LO2 B X.kn g)) (ho' : OpR X (compareOp op') (LO2 B X.kn g')) (ha : BD B X a fa) (hb : BD B X b fb) (hc : BD B X c fc)
    (hm : lastMarks [op, op'] [b, c] = false := by with_unfolding_all rfl) : ED B X (.Compare a [op, op'] [b, c] pos) (gChain g g' fa fb fc) :=
  ⟨pe_imp (pe_chain ho ho' ha.run hb.run hc.run hm) fun s H Q ⟨σ, F, Qd, R, q, k⟩ => lo_chain R q k⟩
theorem td_chain {op op' : CmpOp} (ho : OpR X (compareOp op) (LO2 B X.kn g)) (ho' : OpR X (compareOp op') (LO2 B X.kn g')) (ha : BD B X a fa) (hb : BD B X b fb) (hc : BD B X c fc)
    (hm : lastMarks [op, op'] [b, c] = false := by with_unfolding_all rfl) : TD B X (.Compare a [op, op'] [b, c] pos) (gB (gChain g g' fa fb fc)) :=
  ⟨pt_imp (pt_chain ho ho' ha.run hb.run hc.run hm) fun s H Q ⟨σ, F, Qd, R, q, k⟩ => lo_chain R q (fin_b k)⟩
/-- the truth of data -/
def truthD : D → (Bool → Prop) → Prop
  | .non, Q => Q false
  | .bl b, Q => Q b
  | .int i, Q => Q (i != 0)
  | .str x, Q => x.length ≤ sizeLine ∧ Q ((x.length : Int) != 0)
  | .tup xs, Q => Q (!xs.isEmpty)
  | .lst xs, Q => Q (!xs.isEmpty)
  | .dic kvs, Q => Q (!kvs.isEmpty)
  | _, _ => False
theorem Reps.isEmpty {K : Kn} {F : Hp} {vs : List V} {ds : List D} (h : Reps K F vs ds) : vs.isEmpty = ds.isEmpty := by cases h <;> rfl
theorem RepKs.isEmpty {K : Kn} {F : Hp} {vs : List (Key × V)} {ds : List (Key × D)} (h : RepKs K F vs ds) : vs.isEmpty = ds.isEmpty := by cases h <;> rfl
theorem truth_of {K : Kn} {W : WT} {F H : Hp} {v : V} {d : D} {Qd : Bool → Prop} (r : RepB W K F H v d) (e : Same F H) (q : truthD d Qd) : ∃ b, TruV K.K v H b ∧ Qd b := by
  unfold truthD at q
  split at q
  · rw [r.non]; exact ⟨_, rfl, q⟩
  · rw [r.bl]; exact ⟨_, rfl, q⟩
  · rw [r.int]; exact ⟨_, rfl, q⟩
  · rw [r.str]; exact ⟨_, ⟨q.1, rfl⟩, q.2⟩
  · obtain ⟨a, vs, rfl, _, h, s⟩ := r.tup e
    exact ⟨_, .inr (.inl ⟨vs, h, by rw [s.isEmpty]⟩), q⟩
  · obtain ⟨a, vs, rfl, h, s⟩ := r.lst e
    exact ⟨_, .inl ⟨vs, SqL.of h, by rw [s.isEmpty]⟩, q⟩
  · obtain ⟨a, vs, rfl, h, s⟩ := r.dic e
    exact ⟨_, .inr (.inr ⟨vs, h, by rw [s.isEmpty]⟩), q⟩
  · exact q.elim
@[simp] def gTru (f : GE) (σ : List SV) (Q : Bool → Prop) : Prop := f σ fun d => truthD d Q
theorem td_val (ha : BD B X a fa) (he : ∀ whole, isTrue a X.env whole = (do let v ← whole; standAt a.pos; holding [v] (truthy v)) := by intro _; rfl) : TD B X a (gTru fa) :=
  ⟨pt_imp (pt_truth ha.run he) fun s H Q ⟨σ, F, Qd, R, q, k⟩ => ⟨σ, F, _, R, q, fun d qd F' H' v g dk r => by
    obtain ⟨b, h1, h2⟩ := truth_of r g.fh qd
    exact ⟨b, h1, k b h2 F' H' g dk⟩⟩⟩
@[simp] def gNotT (ft : GT) (σ : List SV) (Q : Bool → Prop) : Prop := ft σ fun b => Q (!b)
theorem td_not (ha : TD B X a ft) : TD B X (.UnaryOp .Not a pos) (gNotT ft) := ⟨pt_imp (pt_not ha.run) fun s H Q ⟨σ, F, Qd, R, q, k⟩ => ⟨σ, F, _, R, q, fun b qb F' H' g dk => k _ qb F' H' g dk⟩⟩
@[simp] def gAndT (ft fu : GT) (σ : List SV) (Q : Bool → Prop) : Prop := ft σ fun b => if b = true then fu σ Q else Q false
@[simp] def gOrT (ft fu : GT) (σ : List SV) (Q : Bool → Prop) : Prop := ft σ fun b => if b = true then Q true else fu σ Q
theorem wd_and1 (ha : TD B X a ft) : WDd B X (.BoolOp .And [a] pos) ft := ⟨pw_and1 ha.run⟩
theorem wd_or1 (ha : TD B X a ft) : WDd B X (.BoolOp .Or [a] pos) ft := ⟨pw_or1 ha.run⟩
theorem wd_and (ha : TD B X a ft) (hb : WDd B X (.BoolOp .And (b :: rest) pos) fu) : WDd B X (.BoolOp .And (a :: b :: rest) pos) (gAndT ft fu) :=
  ⟨pw_imp (pw_and ha.run hb.run) fun s H Q ⟨σ, F, Qd, R, q, k⟩ => ⟨σ, F, _, R, q, fun c qc F' H' g dk => by
    cases c with
    | true => exact ⟨σ, F', Qd, R.grow g dk, qc, k.more g⟩
    | false => exact k _ qc F' H' g dk⟩⟩
theorem wd_or (ha : TD B X a ft) (hb : WDd B X (.BoolOp .Or (b :: rest) pos) fu) : WDd B X (.BoolOp .Or (a :: b :: rest) pos) (gOrT ft fu) :=
  ⟨pw_imp (pw_or ha.run hb.run) fun s H Q ⟨σ, F, Qd, R, q, k⟩ => ⟨σ, F, _, R, q, fun c qc F' H' g dk => by
    cases c with
    | false => exact ⟨σ, F', Qd, R.grow g dk, qc, k.more g⟩
    | true => exact k _ qc F' H' g dk⟩⟩
theorem WDd.t (h : WDd B X e ft) : TD B X e ft := ⟨h.run.pt⟩
/-- as values -/
@[simp] def gAnd (fa fb : GE) (σ : List SV) (Q : D → Prop) : Prop := fa σ fun x => truthD x fun b => if b = true then fb σ Q else Q x
@[simp] def gOr (fa fb : GE) (σ : List SV) (Q : D → Prop) : Prop := fa σ fun x => truthD x fun b => if b = true then Q x else fb σ Q
@[simp] def gNot (fa : GE) (σ : List SV) (Q : D → Prop) : Prop := fa σ fun x => truthD x fun b => Q (.bl (!b))
theorem ed_one {op : BoolOp} (h : ED B X a fa) : ED B X (.BoolOp op [a] pos) fa := ⟨pe_one h.run⟩
theorem ed_and (ha : ED B X a fa) (hb : ED B X (.BoolOp .And (b :: rest) pos) fb) : ED B X (.BoolOp .And (a :: b :: rest) pos) (gAnd fa fb) :=
  ⟨pe_imp (pe_andT ha.run hb.run) fun s H Q ⟨σ, F, Qd, R, q, k⟩ => ⟨σ, F, _, R, q, fun d qd F' H' v g dk r => by
    obtain ⟨c, h1, h2⟩ := truth_of (W := B.W) (.inl r) g.fh qd
    refine ⟨c, h1, ?_⟩
    cases c with
    | true => exact ⟨σ, F', Qd, R.grow g dk, h2, k.more g⟩
    | false => exact k _ h2 F' H' v g dk r⟩⟩
theorem ed_or (ha : ED B X a fa) (hb : ED B X (.BoolOp .Or (b :: rest) pos) fb) : ED B X (.BoolOp .Or (a :: b :: rest) pos) (gOr fa fb) :=
  ⟨pe_imp (pe_orT ha.run hb.run) fun s H Q ⟨σ, F, Qd, R, q, k⟩ => ⟨σ, F, _, R, q, fun d qd F' H' v g dk r => by
    obtain ⟨c, h1, h2⟩ := truth_of (W := B.W) (.inl r) g.fh qd
    refine ⟨c, h1, ?_⟩
    cases c with
    | false => exact ⟨σ, F', Qd, R.grow g dk, h2, k.more g⟩
    | true => exact k _ h2 F' H' v g dk r⟩⟩
theorem ed_not (ha : BD B X a fa) : ED B X (.UnaryOp .Not a pos) (gNot fa) :=
  ⟨pe_imp (pe_notT ha.run) fun s H Q ⟨σ, F, Qd, R, q, k⟩ => ⟨σ, F, _, R, q, fun d qd F' H' v g dk r => by
    obtain ⟨c, h1, h2⟩ := truth_of r g.fh qd
    exact ⟨c, h1, k _ h2 F' H' _ g dk (.bl _)⟩⟩⟩
@[simp] def gIf (ft : GT) (fa fb : GE) (σ : List SV) (Q : D → Prop) : Prop := ft σ fun b => if b = true then fa σ Q else fb σ Q
theorem ed_if (hc : TD B X c ft) (ha : ED B X a fa) (hb : ED B X b fb) : ED B X (.IfExp c a b pos) (gIf ft fa fb) :=
  ⟨pe_imp (pe_ifExp hc.run ha.run hb.run) fun s H Q ⟨σ, F, Qd, R, q, k⟩ => ⟨σ, F, _, R, q, fun d qd F' H' g dk => by
    cases d with
    | true => exact ⟨σ, F', Qd, R.grow g dk, qd, k.more g⟩
    | false => exact ⟨σ, F', Qd, R.grow g dk, qd, k.more g⟩⟩⟩
/-- borrowed either way -/
theorem bd_if (hc : TD B X c ft) (ha : BD B X a fa) (hb : BD B X b fb) : BD B X (.IfExp c a b pos) (gIf ft fa fb) :=
  ⟨pe_imp (pe_ifExp hc.run ha.run hb.run) fun s H Q ⟨σ, F, Qd, R, q, k⟩ => ⟨σ, F, _, R, q, fun d qd F' H' g dk => by
    cases d with
    | true => exact ⟨σ, F', Qd, R.grow g dk, qd, k.more g⟩
    | false => exact ⟨σ, F', Qd, R.grow g dk, qd, k.more g⟩⟩⟩

/-! ### arguments, displays -/
@[simp] def gNil (_ : List SV) (Q : List D → Prop) : Prop := Q []
@[simp] def gCons (fa : GE) (fs : GA) (σ : List SV) (Q : List D → Prop) : Prop := fa σ fun x => fs σ fun xs => Q (x :: xs)
theorem ad_nil : AD B X [] gNil := ⟨pa_imp pa_nil fun s H Q ⟨σ, F, Qd, R, q, k⟩ => k _ q F H _ (Grow.refl R.ex) R.deck .nil⟩
theorem ad_cons {fs : GA} (ha : ED B X e fa) (hr : AD B X es fs) (hs : starEach (e :: es) X.env = (false, eval e X.env) :: starEach es X.env := by rfl) : AD B X (e :: es) (gCons fa fs) :=
  ⟨pa_imp (pa_cons ha.run hr.run hs) fun s H Q ⟨σ, F, Qd, R, q, k⟩ => ⟨σ, F, _, R, q, fun d qd F1 H1 v g1 d1 r1 => ⟨σ, F1, _, R.grow g1 d1, qd, fun ds qds F2 H2 vs g2 d2 r2 => k _ qds F2 H2 _ (g1.trans g2) d2 (.cons (r1.mono g2.ff) r2)⟩⟩⟩
theorem abd_nil : ABD B X [] gNil := ⟨pa_imp pa_nil fun s H Q ⟨σ, F, Qd, R, q, k⟩ => k _ q F H _ (Grow.refl R.ex) R.deck .nil⟩
theorem abd_cons {fs : GA} (ha : BD B X e fa) (hr : ABD B X es fs) (hs : starEach (e :: es) X.env = (false, eval e X.env) :: starEach es X.env := by rfl) : ABD B X (e :: es) (gCons fa fs) :=
  ⟨pa_imp (pa_cons ha.run hr.run hs) fun s H Q ⟨σ, F, Qd, R, q, k⟩ => ⟨σ, F, _, R, q, fun d qd F1 H1 v g1 d1 r1 => ⟨σ, F1, _, R.grow g1 d1, qd, fun ds qds F2 H2 vs g2 d2 r2 => k _ qds F2 H2 _ (g1.trans g2) d2 (.cons (r1.grow g2) r2)⟩⟩⟩
@[simp] def gTup (fs : GA) (σ : List SV) (Q : D → Prop) : Prop := fs σ fun xs => xs.length ≤ sizeLine ∧ Q (.tup xs)
@[simp] def gLst (fs : GA) (σ : List SV) (Q : List D → Prop) : Prop := fs σ fun xs => xs.length ≤ sizeLine ∧ Q xs
theorem ed_tup {fs : GA} {x1} (h : AD B X es fs) : ED B X (.Tuple es x1 pos) (gTup fs) :=
  ⟨pe_imp (pe_tup h.run) fun s H Q ⟨σ, F, Qd, R, q, k⟩ => ⟨σ, F, _, R, q, fun ds qd F1 H1 vs g1 d1 r1 => ⟨by rw [r1.length]; exact qd.1, fun p hp =>
    (k.more g1).frz g1.fh d1 qd.2 hp (.tup (SqT.of upd_same) (r1.mono (same_new (g1.fh.free hp))))⟩⟩⟩
theorem fd_lst {fs : GA} (h : AD B X es fs) : FD B X (.List es pos) (gLst fs) :=
  ⟨pe_imp (pe_lst h.run) fun s H Q ⟨σ, F, Qd, R, q, k⟩ => ⟨σ, F, _, R, q, fun ds qd F1 H1 vs g1 d1 r1 => ⟨by rw [r1.length]; exact qd.1, fun p hp => (k.more g1).laid g1.fh d1 qd.2 hp r1⟩⟩⟩

/-! ### items -/
def look {κ : Type} [BEq κ] (kvs : List (κ × D)) (k : κ) : Option D := kvs.lookup k
def ixD : D → D → (D → Prop) → Prop
  | .tup xs, .int i, Q => ∃ x, atI xs i = some x ∧ Q x
  | .lst xs, .int i, Q => ∃ x, atI xs i = some x ∧ Q x
  | .str z, .int i, Q => z.length ≤ sizeLine ∧ ∃ c, atI z.cps.toList i = some c ∧ Q (.str ⟨#[c]⟩)
  | _, _, _ => False
theorem Reps.atI {K : Kn} {F : Hp} {vs : List V} {ds : List D} {i : Int} {x : D} (h : Reps K F vs ds) (e : L2.atI ds i = some x) : ∃ v, L2.atI vs i = some v ∧ Rep K F v x := by
  unfold L2.atI at e ⊢
  rw [h.length]
  cases q : ixN ds.length i with
  | none =>
    rw [q] at e
    cases e
  | some j =>
    rw [q] at e
    obtain ⟨v, h1, h2⟩ := h.get (i := j) (x := x) e
    exact ⟨v, h1, h2⟩
theorem ixR_by {r' : R2} (w : ∀ v u H Q, r' v u H Q → ∃ r, IxR X r ∧ r v u H Q) : IxR X r' := fun vl sl pins s σ H x y v u Q I rx ry h hs => by
  obtain ⟨r, h1, h2⟩ := w _ _ _ _ h
  exact h1 vl sl pins s σ H x y v u Q I rx ry h2 hs
theorem o_ix : IxR X (LO2 B X.kn ixD) := ixR_by fun v u H Q ⟨F, x, y, Qd, e, dk, r1, r2, q, k⟩ => by
  unfold ixD at q
  split at q
  · obtain ⟨a, vs, rfl, _, h, s⟩ := r1.tup e
    obtain ⟨x, h1, q⟩ := q
    obtain ⟨w, h2, h3⟩ := s.atI h1
    exact ⟨_, ix_tup, a, vs, _, w, rfl, r2.int, h, h2, k.here e dk q h3⟩
  · obtain ⟨a, vs, rfl, h, s⟩ := r1.lst e
    obtain ⟨x, h1, q⟩ := q
    obtain ⟨w, h2, h3⟩ := s.atI h1
    exact ⟨_, ix_list, a, vs, _, w, rfl, r2.int, SqL.of h, h2, k.here e dk q h3⟩
  · obtain ⟨z, c, h1, q⟩ := q
    exact ⟨_, ix_str, _, _, c, r1.str, r2.int, z, h1, k.here e dk q (.str _)⟩
  · exact q.elim
theorem ed_ix (ha : BD B X a fa) (hb : BD B X b fb) (hs : PlainIx b := by exact fun _ _ => rfl) : ED B X (.Subscript a b pos) (gBin ixD fa fb) :=
  ⟨pe_imp (pe_ix o_ix ha.run hb.run hs) fun s H Q ⟨σ, F, Qd, R, q, k⟩ => lo2_of R q k⟩

/-! ### slices -/
abbrev GO := List SV → (Option Int → Prop) → Prop
def LO (B : Bs) (K : Kn) (f : GO) : TO := fun s H Q => ∃ σ F Qd, Rel B K σ s F H ∧ f σ Qd ∧ ∀ o, Qd o → ∀ F' H', Grow B.W F H F' H' → DeckIn B.W F' H' → Q o H'
structure OD (B : Bs) (X : Cx) (e : Option Expr) (f : GO) : Prop where
  run : PO X e (LO B X.kn f)
theorem po_imp {e : Option Expr} {t t' : TO} (h : PO X e t) (w : ∀ s H Q, t' s H Q → t s H Q) : PO X e t' := ⟨fun pins s σ H Q I q => h.run pins s σ H Q I (w _ _ _ q)⟩
@[simp] def gNoPart (_ : List SV) (Q : Option Int → Prop) : Prop := Q none
def unI (d : D) (Q : Int → Prop) : Prop := ∃ i, d = .int i ∧ Q i
@[simp] theorem unI_i (b : Int) (Q : Int → Prop) : unI (.int b) Q ↔ Q b := ⟨fun ⟨_, e, q⟩ => by cases e; exact q, fun q => ⟨b, rfl, q⟩⟩
@[simp] def gPart (fa : GE) (σ : List SV) (Q : Option Int → Prop) : Prop := fa σ fun d => unI d fun i => Q (some i)
theorem od_none : OD B X none gNoPart := ⟨po_imp po_none fun s H Q ⟨σ, F, Qd, R, q, k⟩ => k _ q F H (Grow.refl R.ex) R.deck⟩
theorem od_some (ha : ED B X a fa) : OD B X (some a) (gPart fa) := ⟨po_imp (po_some ha.run) fun s H Q ⟨σ, F, Qd, R, q, k⟩ => ⟨σ, F, _, R, q, fun d ⟨i, e, q⟩ F' H' v g dk r => by
  subst e
  cases r
  exact ⟨i, rfl, k _ q F' H' g dk⟩⟩⟩
def cutG {α : Type} (xs : List α) (lo hi : Option Int) : List α := (xs.drop (HT.sIx xs.length 0 lo)).take (HT.sIx xs.length xs.length hi - HT.sIx xs.length 0 lo)
theorem Reps.cut {K : Kn} {F : Hp} {vs : List V} {ds : List D} (h : Reps K F vs ds) (lo hi : Option Int) : Reps K F (cutV vs lo hi) (cutG ds lo hi) := by
  unfold cutV cutG
  rw [h.length]
  exact (h.drop _).take _
def slD : D → Option Int → Option Int → (D → Prop) → Prop
  | .tup xs, lo, hi, Q => Q (.tup (cutG xs lo hi))
  | .lst xs, lo, hi, Q => Q (.lst (cutG xs lo hi))
  | .str z, lo, hi, Q => z.length ≤ sizeLine ∧ Q (.str (cutS z lo hi))
  | _, _, _, _ => False
def LSl (B : Bs) (K : Kn) (g : D → Option Int → Option Int → (D → Prop) → Prop) : V → Option Int → Option Int → Hp → VK → Prop := fun v lo hi H Q => ∃ F x Qd, Same F H ∧ DeckIn B.W F H ∧ RepB B.W K F H v x ∧ g x lo hi Qd ∧ Fin B K F H Qd Q
theorem slR_by {r' : V → Option Int → Option Int → Hp → VK → Prop} (w : ∀ v l h H Q, r' v l h H Q → ∃ r, SlR X r ∧ r v l h H Q) : SlR X r' := by
  intro pins s σ H x v vl vu lo hi sl Q I rx hs p1 p2 h
  obtain ⟨r, h1, h2⟩ := w _ _ _ _ _ h
  exact h1 pins s σ H x v vl vu lo hi sl Q I rx hs p1 p2 h2
theorem sIx_zero_full {α : Type} (xs : List α) (lo hi : Option Int) (h : HT.sIx xs.length 0 lo = 0 ∧ HT.sIx xs.length xs.length hi = xs.length) : cutG xs lo hi = xs := by
  unfold cutG
  rw [h.1, h.2]
  simp
theorem o_sl : SlR X (LSl B X.kn slD) := slR_by fun v lo hi H Q ⟨F, x, Qd, e, dk, r1, q, k⟩ => by
  unfold slD at q
  split at q
  · obtain ⟨a, vs, rfl, f1, h, s⟩ := r1.tup e
    refine ⟨_, sl_tupA, a, vs, rfl, h, fun z => ?_, fun z p hp => ?_⟩
    · rw [s.length] at z
      rw [sIx_zero_full _ _ _ z] at q
      exact k.here e dk q (.tup f1 s)
    · exact k.frz e dk q hp (.tup (SqT.of upd_same) ((s.cut _ _).mono (same_new (e.free hp))))
  · obtain ⟨a, vs, rfl, h, s⟩ := r1.lst e
    exact ⟨_, sl_list, a, vs, rfl, SqL.of h, fun p hp => k.frz e dk q hp (.lst upd_same ((s.cut _ _).mono (same_new (e.free hp))))⟩
  · exact ⟨_, sl_str, _, r1.str, q.1, k.here e dk q.2 (.str _)⟩
  · exact q.elim
@[simp] def gSl (g : D → Option Int → Option Int → (D → Prop) → Prop) (fa : GE) (fl fh : GO) (σ : List SV) (Q : D → Prop) : Prop := fa σ fun x => fl σ fun l => fh σ fun h => g x l h Q
theorem ed_sl {lo hi : Option Expr} {fl fh : GO} {p2 : Pos} (ha : BD B X a fa) (hl : OD B X lo fl) (hh : OD B X hi fh) : ED B X (.Subscript a (.Slice lo hi none p2) pos) (gSl slD fa fl fh) :=
  ⟨pe_imp (pe_slice o_sl ha.run hl.run hh.run) fun s H Q ⟨σ, F, Qd, R, q, k⟩ => ⟨σ, F, _, R, q, fun x qx F1 H1 v g1 d1 r1 => ⟨σ, F1, _, R.grow g1 d1, qx, fun l ql F2 H2 g2 d2 =>
    ⟨σ, F2, _, R.grow (g1.trans g2) d2, ql, fun h qh F3 H3 g3 d3 => ⟨F3, x, Qd, g3.fh, d3, (r1.grow g2).grow g3, qh, k.more ((g1.trans g2).trans g3)⟩⟩⟩⟩⟩
/-- a slice of a list, a new list of one's own -/
def slF : D → Option Int → Option Int → (List D → Prop) → Prop
  | .lst xs, lo, hi, Q => Q (cutG xs lo hi)
  | _, _, _, _ => False
def LSlF (B : Bs) (K : Kn) (g : D → Option Int → Option Int → (List D → Prop) → Prop) : V → Option Int → Option Int → Hp → VK → Prop := fun v lo hi H Q => ∃ F x Qd, Same F H ∧ DeckIn B.W F H ∧ RepB B.W K F H v x ∧ g x lo hi Qd ∧ FinF B K F H Qd Q
theorem o_slF : SlR X (LSlF B X.kn slF) := slR_by fun v lo hi H Q ⟨F, x, Qd, e, dk, r1, q, k⟩ => by
  unfold slF at q
  split at q
  · obtain ⟨a, vs, rfl, h, s⟩ := r1.lst e
    exact ⟨_, sl_list, a, vs, rfl, SqL.of h, fun p hp => k.laid e dk q hp (s.cut _ _)⟩
  · exact q.elim
@[simp] def gSlF (g : D → Option Int → Option Int → (List D → Prop) → Prop) (fa : GE) (fl fh : GO) (σ : List SV) (Q : List D → Prop) : Prop := fa σ fun x => fl σ fun l => fh σ fun h => g x l h Q
theorem fd_sl {lo hi : Option Expr} {fl fh : GO} {p2 : Pos} (ha : BD B X a fa) (hl : OD B X lo fl) (hh : OD B X hi fh) : FD B X (.Subscript a (.Slice lo hi none p2) pos) (gSlF slF fa fl fh) :=
  ⟨pe_imp (pe_slice o_slF ha.run hl.run hh.run) fun s H Q ⟨σ, F, Qd, R, q, k⟩ => ⟨σ, F, _, R, q, fun x qx F1 H1 v g1 d1 r1 => ⟨σ, F1, _, R.grow g1 d1, qx, fun l ql F2 H2 g2 d2 =>
    ⟨σ, F2, _, R.grow (g1.trans g2) d2, ql, fun h qh F3 H3 g3 d3 => ⟨F3, x, Qd, g3.fh, d3, (r1.grow g2).grow g3, qh, k.more ((g1.trans g2).trans g3)⟩⟩⟩⟩⟩
/-- xs[::-1] of a list -/
def unL (d : D) (Q : List D → Prop) : Prop := ∃ xs, d = .lst xs ∧ Q xs
@[simp] theorem unL_l (b : List D) (Q : List D → Prop) : unL (.lst b) Q ↔ Q b := ⟨fun ⟨_, e, q⟩ => by cases e; exact q, fun q => ⟨b, rfl, q⟩⟩
@[simp] def gRev (fa : GE) (σ : List SV) (Q : List D → Prop) : Prop := fa σ fun d => unL d fun xs => Q xs.reverse
theorem fd_rev {k : Nat} {p1 p2 p3 : Pos} (ha : BD B X a fa) : FD B X (.Subscript a (.Slice none none (some (.UnaryOp .USub (.Constant (.int 1) k p1) p2)) p3) pos) (gRev fa) :=
  ⟨pe_imp (pe_revL ha.run) fun s H Q ⟨σ, F, Qd, R, q, k⟩ => ⟨σ, F, _, R, q, fun d ⟨xs, e, qx⟩ F1 H1 v g1 d1 r1 => by
    subst e
    obtain ⟨a, vs, rfl, h, s⟩ := r1.lst g1.fh
    exact ⟨a, vs, rfl, SqL.of h, fun p hp => (k.more g1).laid g1.fh d1 qx hp s.reverse⟩⟩⟩
/-- list + list, list * n: new lists of one's own -/
def catF : D → D → (List D → Prop) → Prop
  | .lst xs, .lst ys, Q => xs.length + ys.length ≤ sizeLine ∧ Q (xs ++ ys)
  | _, _, _ => False
def repF : D → D → (List D → Prop) → Prop
  | .lst xs, .int k, Q => 0 ≤ k ∧ k < 2 ^ 63 ∧ xs.length * k.toNat ≤ sizeLine ∧ Q (List.replicate k.toNat xs).flatten
  | _, _, _ => False
def LOF (B : Bs) (K : Kn) (g : D → D → (List D → Prop) → Prop) : R2 := fun v u H Q => ∃ F x y Qd, Same F H ∧ DeckIn B.W F H ∧ RepB B.W K F H v x ∧ RepB B.W K F H u y ∧ g x y Qd ∧ FinF B K F H Qd Q
@[simp] def gBinF (g : D → D → (List D → Prop) → Prop) (fa fb : GE) (σ : List SV) (Q : List D → Prop) : Prop := fa σ fun x => fb σ fun y => g x y Q
theorem o_catF : OpR X (binaryOp .Add) (LOF B X.kn catF) := opR_by fun v u H Q ⟨F, x, y, Qd, e, dk, r1, r2, q, k⟩ => by
  unfold catF at q
  split at q
  · obtain ⟨a, vs, rfl, h1, s1⟩ := r1.lst e
    obtain ⟨b, us, rfl, h2, s2⟩ := r2.lst e
    exact ⟨_, op_cat, a, b, vs, us, rfl, rfl, h1, h2, by rw [s1.length, s2.length]; exact q.1, fun p hp => k.laid e dk q.2 hp (s1.append s2)⟩
  · exact q.elim
theorem o_repF : OpR X (binaryOp .Mult) (LOF B X.kn repF) := opR_by fun v u H Q ⟨F, x, y, Qd, e, dk, r1, r2, q, k⟩ => by
  unfold repF at q
  split at q
  · obtain ⟨a, vs, rfl, h1, s1⟩ := r1.lst e
    obtain ⟨q0, q1, q2, q3⟩ := q
    exact ⟨_, op_rep, a, _, vs, rfl, r2.int, h1, by omega, q1, by rw [s1.length]; exact q2, fun p hp => k.laid e dk q3 hp (s1.rep _)⟩
  · exact q.elim
theorem fd_bin {op : Operator} {g : D → D → (List D → Prop) → Prop} (ho : OpR X (binaryOp op) (LOF B X.kn g)) (ha : BD B X a fa) (hb : BD B X b fb) : FD B X (.BinOp a op b pos) (gBinF g fa fb) :=
  ⟨pe_imp (pe_op ho ha.run hb.run) fun s H Q ⟨σ, F, Qd, R, q, k⟩ => lb_two (Qd := fun x y => g x y Qd) R q fun x y F' H' v u q g' d r1 r2 => ⟨F', x, y, Qd, g'.fh, d, r1, r2, q, k.more g'⟩⟩
end
end ND

/-! ND4: what a def promises, by data; calls -/
namespace ND
open PySem PySem.Spec L2
open PyProof.Rows (envOfC)

/-- an error: its class's name, its attributes -/
structure Er where
  nm : Str
  fs : List (Str × D)
/-- the exception of the class c with the dict o -/
def RepEr (K : Kn) (F H : Hp) (c : Value) (o : Option Addr) (er : Er) : Prop :=
  K.mg er.nm = some c ∧ (er.fs ≠ [] → ∃ a vs, o = some a ∧ H a = some (.xd vs) ∧ RepFs K F vs er.fs) ∧ (er.fs = [] → o = none)
/-- what a def promises: the deck, the arguments, what is wanted of the answer, of an error -/
abbrev DSp := WD → List D → (D → Prop) → (Er → Prop) → Prop
def FinE (W : WT) (K : Kn) (F H : Hp) (Rd : Er → Prop) (E : XK) : Prop := ∀ er, Rd er → ∀ F' H' c o, Grow W F H F' H' → DeckIn W F' H' → RepEr K F' H' c o er → E c o H'
theorem FinE.more {W : WT} {K : Kn} {F H F' H' : Hp} {Rd : Er → Prop} {E : XK} (h : FinE W K F H Rd E) (g : Grow W F H F' H') : FinE W K F' H' Rd E := fun er q F2 H2 c o g2 d r => h er q F2 H2 c o (g.trans g2) d r
theorem FinE.none {W : WT} {K : Kn} {F H : Hp} : FinE W K F H (fun _ => False) E0 := fun _ q _ _ _ _ _ _ _ => q
def liftSp (K : Kn) (T : List (Addr × Str)) (sp : DSp) : Sp := fun vs H Q E => ∃ (W : WD) (F : Hp) (ds : List D) (Qd : D → Prop) (Rd : Er → Prop), Same F H ∧ DeckIn ⟨W, T⟩ F H ∧ Reps K F vs ds ∧ sp W ds Qd Rd ∧ Fin ⟨⟨W, T⟩, F, H⟩ K F H Qd Q ∧ FinE ⟨W, T⟩ K F H Rd E

/-- as FnOk, where nothing is being shown around -/
structure FnG (P : Program) (w : World) (K : PySem.W.Frag) (mg : Str → Option Value) (base : Heap) (k : Nat) (f : Addr) (fd : FuncData) (ps : List Str) (sp : Sp) : Prop where
  len : ∀ vs H Q E, sp vs H Q E → vs.length = ps.length
  run : ∀ (A : Around) (outer : List Env) (s : Shared) (H : Hp) (args : Args) (us : List Value) (vs : List V) (Q : VK) (E : XK), A.guards = some [] → Room k A → Env0 P w K mg base A outer s H → BindsTo s fd args (ps.zip us) → Vals vs us → sp vs H Q E →
    codeAny (model P w) A (.call (.ref f) args) (CR (L2.CX P w) outer P w H s Q E) s
theorem FnG.of {P : Program} {w : World} {K : PySem.W.Frag} {mg : Str → Option Value} {base : Heap} {k : Nat} {f : Addr} {fd : FuncData} {ps : List Str} {sp : Sp} (F : FnOk P w K mg base (L2.CX P w) k f fd ps sp) : FnG P w K mg base k f fd ps sp :=
  ⟨F.len, fun A outer s H args us vs Q E _ => F.run A outer s H args us vs Q E⟩
section
variable {P : Program} {w : World} {K : PySem.W.Frag} {mg : Str → Option Value} {base : Heap} {k : Nat} {f : Addr} {qual name : Str} {scope : Scope} {cdv : Value} {N ps : List Str}
/-- how a body ends is how its call ends -/
theorem ends_call {A : Around} {outer : List Env} {s z : Shared} {H : Hp} {E : XK} {Q : VK} : ∀ {fl : Flow}, SP (cxOf (L2.CX P w) P w K mg base N qual scope f cdv A outer s H E) [] { nx := fun _ G => Q .non G, rt := Q } fl z →
    match fl with | .ret u => CE outer P w H s Q u z | .next => CE outer P w H s Q .none z | _ => False
  | .next, ⟨_, G, I, q⟩ => ⟨.non, G, I.os, I.bare, I.base, I.hok, rfl, q⟩
  | .ret _, ⟨v, _, G, I, r, q⟩ => ⟨v, G, I.os, I.bare, I.base, I.hok, r, q⟩
  | .brk, ⟨_, _, _, q⟩ => q
  | .cont, ⟨_, _, _, q⟩ => q
theorem par_kinds (S : FnScope N ps scope) {us : List Value} {n : Nat} : ∀ y ∈ ps.zip us, scope.names.lookup y.1 = some .local ∨ (scope.names.lookup y.1 = some .cell ∧ ((cellsFrom n scope.names []).lookup y.1).isSome = true) :=
  fun y hy => (S.par y.1 (List.of_mem_zip (show (y.1, y.2) ∈ _ from hy)).1).imp id fun q => ⟨q, PySem.W.cellsFrom_some _ _ _ (.inl q)⟩
/-- a def by its body, where nothing is being shown around -/
theorem fn_ofG {params : Arguments} {body : List Stmt} {dV kV doc pm ct oc : Value} {an od : Option Addr} {osl : Array (Option Value)} {sp : Sp}
    (at_f : K.lookup f = some ⟨oc, od, .func (PySem.W.fnOf name qual params body scope dV kV doc pm an cdv ct), osl⟩) (code : PySem.W.codeIn K cdv qual = true) (S : FnScope N ps scope) (cnt : ∀ vs H Q E, sp vs H Q E → vs.length = ps.length)
    (walk : ∀ (A : Around) (outer : List Env) (s : Shared) (H : Hp) (vs : List V) (Q : VK) (E : XK), (A.deeper (envOfC qual scope s.heap.objs.size f cdv)).guards = some [] → Room k (A.deeper (envOfC qual scope s.heap.objs.size f cdv)) → sp vs H Q E →
      ∃ t, PSs (cxOf (L2.CX P w) P w K mg base N qual scope f cdv A outer s H E) body t ∧ t { nx := fun _ G => Q .non G, rt := Q } (start N vs) H) :
    FnG P w K mg base (k + 1) f (PySem.W.fnOf name qual params body scope dV kV doc pm an cdv ct) ps sp :=
  ⟨cnt, fun A outer s H args us vs Q E quiet room env bound vals want => by
    have stands : ∀ b o, base.get? b = some o → s.heap.get? b = some o := fun b o e => (env.bs b o e).1
    have inK := env.mod.kin.keeps stands
    obtain ⟨t, does, goal⟩ := walk A outer s H vs Q E quiet (room.deeper _) want
    exact codeAny_call_function room.depth (inK _ _ at_f) rfl S.co S.gen rfl (PySem.W.codeRec_of inK code) (bound _ _ _ _ (wpAny_newFunctionEnv_cells S.kind (par_kinds S) fun e same z entered => by
      cases same
      exact ⟨(env.mod.nolimit.keeps stands).keeps entered.toInCall.keep, codeAny_func (wpAny_mono (does.run [] z (start N vs) H _ (inv_start S room.hd env (cnt _ _ _ _ want) vals entered) goal)
        (fun fl z2 q => by
          have r := ends_call q
          cases fl <;> first | exact r | exact r.elim) fun _ _ q => q)⟩))⟩
end

/-! ### calls of a def of the module, by position -/
@[simp] def gCall (sp : DSp) (W : WD) (R : Er → Prop) (fs : GA) (σ : List SV) (Q : D → Prop) : Prop := fs σ fun ds => sp W ds Q R
section
variable {B : Bs} {X : Cx} {k : Nat} {f : Addr} {fd : FuncData} {ps : List Str} {sp : DSp} {R : Er → Prop} {E : XK} {x : Str} {p pos : Pos} {e : Expr} {es : List Expr} {fs : GA}
theorem la_call {s : L2.St} {σ : List SV} {F H : Hp} {Qd : D → Prop} {Q : VK} {K : Kn} (hE : FinE B.W K B.F B.H R E) (Rl : Rel B K σ s F H) (q : gCall sp B.W.p R fs σ Qd) (kf : Fin B K F H Qd Q) : LA B K fs s H fun vs H1 => liftSp K B.W.T sp (vs ++ []) H1 Q E :=
  ⟨σ, F, _, Rl, q, fun ds qds F1 H1 vs g1 d1 r1 => ⟨B.W.p, F1, ds, Qd, R, g1.fh, d1, by rw [List.append_nil]; exact r1, qds, fun d qd F2 H2 v g2 d2 r2 => kf d qd F2 H2 v (g1.trans g2) d2 r2, hE.more (Rl.base.trans g1)⟩⟩
theorem ed_call (G : FnOk X.prog X.w X.K X.mg X.base (L2.CX X.prog X.w) k f fd ps (liftSp X.kn B.W.T sp)) (hr : Room k X.A) (hg : Gl X x) (hm : X.mg x = some (.ref f)) (hk : PySem.W.keepIn X.K (.ref f) = true) (hb : Binds X.K fd ps []) (hx : Passes (L2.CX X.prog X.w) X E) (hE : FinE B.W X.kn B.F B.H R E)
    (ha : AD B X (e :: es) fs) (hdb : (x == ("__debug__" : Str)) = false := by decide) (he : starEach (e :: es) X.env = (false, eval e X.env) :: starEach es X.env := by rfl) (hpl : (backTo pos (starEach es X.env)).any (·.1) = false := by rfl) :
    ED B X (.Call (.Name x p) (e :: es) [] pos) (gCall sp B.W.p R fs) :=
  ⟨pe_imp (pe_call G hr hg hm hk hb .nil hx ha.run hdb he hpl) fun s H Q ⟨σ, F, Qd, Rl, q, kf⟩ => la_call hE Rl q kf⟩
theorem ed_call0 (G : FnOk X.prog X.w X.K X.mg X.base (L2.CX X.prog X.w) k f fd ps (liftSp X.kn B.W.T sp)) (hr : Room k X.A) (hg : Gl X x) (hm : X.mg x = some (.ref f)) (hk : PySem.W.keepIn X.K (.ref f) = true) (hb : Binds X.K fd ps []) (hx : Passes (L2.CX X.prog X.w) X E) (hE : FinE B.W X.kn B.F B.H R E)
    (hdb : (x == ("__debug__" : Str)) = false := by decide) : ED B X (.Call (.Name x p) [] [] pos) (gCall sp B.W.p R gNil) :=
  ⟨pe_imp (pe_call0 G hr hg hm hk hb .nil hx hdb) fun s H Q ⟨σ, F, Qd, Rl, q, kf⟩ => ⟨B.W.p, F, [], Qd, R, Rl.ex, Rl.deck, .nil, q, fun d qd F2 H2 v g2 d2 r2 => kf d qd F2 H2 v g2 d2 r2, hE.more Rl.base⟩⟩
/-- a call's end, back in the caller -/
theorem back_in {pins : List (Addr × Obj)} {σ : L2.St} {H : Hp} {s z : Shared} {Q : VK} (I : Inv X pins σ H s) (lets : Passes (L2.CX X.prog X.w) X E) : ∀ {r : Result}, CR (L2.CX X.prog X.w) X.stack X.prog X.w H s Q E r z →
    match r with | .ok (.ret u) => EP X pins σ Q u z | .ok _ => False | .error e => X.xe e z
  | .ok (.ret _), h => I.after h
  | .ok .next, h => h
  | .ok .brk, h => h
  | .ok .cont, h => h
  | .error _, h => lets _ _ _ _ _ _ I h
theorem pe_callG {sp : Sp} {t : TA} (F : FnG X.prog X.w X.K X.mg X.base k f fd ps sp) (quiet : X.A.guards = some []) (room : Room k X.A) (glob : Gl X x) (isf : X.mg x = some (.ref f)) (kept : PySem.W.keepIn X.K (.ref f) = true) (bind : Binds X.K fd ps []) (lets : Passes (L2.CX X.prog X.w) X E) (args : PA X (e :: es) t)
    (ndb : (x == ("__debug__" : Str)) = false := by decide) (star : starEach (e :: es) X.env = (false, eval e X.env) :: starEach es X.env := by rfl) (plain : (backTo pos (starEach es X.env)).any (·.1) = false := by rfl) :
    PE X (.Call (.Name x p) (e :: es) [] pos) (fun σ H Q => t σ H fun vs G => sp vs G Q E) :=
  ⟨fun pins s σ H Q I h => wpAny_Call_Name_kw (ld_glob I glob isf (PySem.W.callWith_K (h₀ := X.base) I.ok.mod.kin kept (thn (args.run pos pins s σ H _ I h) fun us z ⟨vs, G, J, vals, q⟩ => ⟨J.kIn, by
    have n : us.length = ps.length := (Vals.length vals).symm.trans (F.len _ _ _ _ q)
    have bd := bind z us J.kIn (by rw [List.append_nil]; exact n)
    rw [List.append_nil] at bd
    refine wpAny_call (codeAny_mono (F.run X.A X.stack z G ⟨us, []⟩ us vs Q E quiet room J.env0 bd vals q) fun r z2 o => ?_)
    have b := back_in J lets o
    rcases r with _ | fl
    · exact b
    · cases fl <;> first | exact b | exact b.elim⟩) star plain) ndb)⟩
theorem ed_callG (G : FnG X.prog X.w X.K X.mg X.base k f fd ps (liftSp X.kn B.W.T sp)) (hG : X.A.guards = some []) (hr : Room k X.A) (hg : Gl X x) (hm : X.mg x = some (.ref f)) (hk : PySem.W.keepIn X.K (.ref f) = true) (hb : Binds X.K fd ps []) (hx : Passes (L2.CX X.prog X.w) X E) (hE : FinE B.W X.kn B.F B.H R E)
    (ha : AD B X (e :: es) fs) (hdb : (x == ("__debug__" : Str)) = false := by decide) (he : starEach (e :: es) X.env = (false, eval e X.env) :: starEach es X.env := by rfl) (hpl : (backTo pos (starEach es X.env)).any (·.1) = false := by rfl) :
    ED B X (.Call (.Name x p) (e :: es) [] pos) (gCall sp B.W.p R fs) :=
  ⟨pe_imp (pe_callG G hG hr hg hm hk hb hx ha.run hdb he hpl) fun s H Q ⟨σ, F, Qd, Rl, q, kf⟩ => by
    have z := la_call (s := s) (Q := Q) hE Rl q kf
    simpa using z⟩

/-! ### by keywords: n positional values, m by keyword, put in the order pm -/
def permA {α : Type} (n m : Nat) (pm : List Nat) (us ws : List α) : List α := if us.length = n ∧ ws.length = m then pm.filterMap fun i => (us ++ ws)[i]? else []
theorem paired_app {α β : Type} {R : α → β → Prop} : ∀ {a c : List α} {b d : List β}, Paired R a b → Paired R c d → Paired R (a ++ c) (b ++ d)
  | _, _, _, _, .nil, h => h
  | _, _, _, _, .cons r t, h => .cons r (paired_app t h)
theorem paired_at {α β : Type} {R : α → β → Prop} : ∀ {a : List α} {b : List β} (i : Nat), Paired R a b → (a[i]? = none ∧ b[i]? = none) ∨ ∃ x y, a[i]? = some x ∧ b[i]? = some y ∧ R x y
  | _, _, _, .nil => .inl ⟨by simp, by simp⟩
  | _, _, 0, .cons r _ => .inr ⟨_, _, rfl, rfl, r⟩
  | _, _, i + 1, .cons _ t => by simpa using paired_at i t
theorem paired_pick {α β : Type} {R : α → β → Prop} {a : List α} {b : List β} (h : Paired R a b) : ∀ pm : List Nat, Paired R (pm.filterMap fun i => a[i]?) (pm.filterMap fun i => b[i]?)
  | [] => .nil
  | i :: pm => by
    rw [List.filterMap_cons, List.filterMap_cons]
    rcases paired_at i h with ⟨e1, e2⟩ | ⟨x, y, e1, e2, r⟩
    · rw [e1, e2]
      exact paired_pick h pm
    · rw [e1, e2]
      exact .cons r (paired_pick h pm)
theorem paired_len {α β : Type} {R : α → β → Prop} {a : List α} {b : List β} (h : Paired R a b) : a.length = b.length := Paired.length h
theorem paired_perm {α β : Type} {R : α → β → Prop} {n m : Nat} {pm : List Nat} {us ws : List α} {us' ws' : List β} (h : Paired R us us') (h' : Paired R ws ws') : Paired R (permA n m pm us ws) (permA n m pm us' ws') := by
  unfold permA
  rw [paired_len h, paired_len h']
  split
  · exact paired_pick (paired_app h h') pm
  · exact .nil
theorem Reps.pair {K : Kn} {F : Hp} : ∀ {vs : List V} {ds : List D}, Reps K F vs ds → Paired (Rep K F) vs ds
  | _, _, .nil => .nil
  | _, _, .cons r t => .cons r (Reps.pair t)
theorem Reps.of_pair {K : Kn} {F : Hp} : ∀ {vs : List V} {ds : List D}, Paired (Rep K F) vs ds → Reps K F vs ds
  | _, _, .nil => .nil
  | _, _, .cons r t => .cons r (Reps.of_pair t)
theorem kb_perm {K : PySem.W.Frag} {ks : List Str} {n m : Nat} {pm : List Nat} (hp : ps ≠ []) (h : ∀ us ws : List Value, us.length = n → ws.length = m → bindArgs fd ⟨us, ks.zip ws⟩ = pure (ps.zip (permA n m pm us ws))) : KBinds K fd ps ks (permA n m pm) (permA n m pm) :=
  ⟨fun s us ws _ hl => by
    have hc : us.length = n ∧ ws.length = m := by
      by_cases c : us.length = n ∧ ws.length = m
      · exact c
      · exfalso
        unfold permA at hl
        rw [if_neg c] at hl
        cases ps with
        | nil => exact hp rfl
        | cons _ _ => simp at hl
    exact .of_eq (h us ws hc.1 hc.2), fun r1 r2 => paired_perm r1 r2⟩
structure KD (B : Bs) (X : Cx) (kws : List Keyword) (f : GA) : Prop where
  run : PK X kws (LA B X.kn f)
theorem pk_imp {X : Cx} {kws : List Keyword} {t t' : TA} (h : PK X kws t) (w : ∀ s H Q, t' s H Q → t s H Q) : PK X kws t' := ⟨fun pos pins s σ H Q I q => h.run pos pins s σ H Q I (w _ _ _ q)⟩
theorem kd_nil : KD B X [] gNil := ⟨pk_imp pk_nil fun s H Q ⟨σ, F, Qd, R, q, k⟩ => k _ q F H _ (Grow.refl R.ex) R.deck .nil⟩
theorem kd_cons {nm : Option Str} {kpos : Pos} {kws : List Keyword} {fa : GE} (ha : ED B X e fa) (hr : KD B X kws fs) : KD B X (⟨nm, e, kpos⟩ :: kws) (gCons fa fs) :=
  ⟨pk_imp (pk_cons ha.run hr.run) fun s H Q ⟨σ, F, Qd, R, q, k⟩ => ⟨σ, F, _, R, q, fun d qd F1 H1 v g1 d1 r1 => ⟨σ, F1, _, R.grow g1 d1, qd, fun ds qds F2 H2 vs g2 d2 r2 => k _ qds F2 H2 _ (g1.trans g2) d2 (.cons (r1.mono g2.ff) r2)⟩⟩⟩
/-- f(e, .., k = v, ..) or f(k = v, ..) -/
@[simp] def gCallK (sp : DSp) (n m : Nat) (pm : List Nat) (W : WD) (R : Er → Prop) (fs fk : GA) (σ : List SV) (Q : D → Prop) : Prop := fs σ fun us => fk σ fun ws => sp W (permA n m pm us ws) Q R
variable {ks : List Str} {kws : List Keyword} {fk : GA} {n m : Nat} {pm : List Nat}
theorem pe_callK0 {sp : Sp} {gV : List V → List V → List V} {g : List Value → List Value → List Value} {tk : TA} (F : FnOk X.prog X.w X.K X.mg X.base (L2.CX X.prog X.w) k f fd ps sp) (room : Room k X.A) (glob : Gl X x) (isf : X.mg x = some (.ref f)) (kept : PySem.W.keepIn X.K (.ref f) = true)
    (bind : KBinds X.K fd ps ks g gV) (lets : Passes (L2.CX X.prog X.w) X E) (named : PK X kws tk) (each : (backToKw pos (keywordEach kws X.env)).all (·.1.isSome) = true := by rfl) (order : (backToKw pos (keywordEach kws X.env)).filterMap (·.1) = ks := by rfl) (ndb : (x == ("__debug__" : Str)) = false := by decide)
    (plain : ((backTo pos (starEach [] X.env)).any (·.1) || (backToKw pos (keywordEach kws X.env)).any (·.1.isNone)) = false := by rfl) : PE X (.Call (.Name x p) [] kws pos) (tCallK sp gV E tNil tk) :=
  ⟨fun pins s σ H Q I h => wpAny_Call_Name_kw (ld_glob I glob isf (PySem.W.callWith_KW0 (h₀ := X.base) I.ok.mod.kin kept each (thn (named.run pos pins s σ H _ I h) fun ws z ⟨zs, G, J, vals, q⟩ => ⟨J.kIn, order ▸ run_fnk (us := []) (vs := []) F room bind lets J .nil vals q⟩) plain) ndb)⟩
theorem la_callK {s : L2.St} {σ : List SV} {F H : Hp} {Qd : D → Prop} {Q : VK} {K : Kn} (hE : FinE B.W K B.F B.H R E) (Rl : Rel B K σ s F H) (q : gCallK sp n m pm B.W.p R fs fk σ Qd) (kf : Fin B K F H Qd Q) :
    LA B K fs s H fun vs H1 => LA B K fk s H1 fun zs H2 => liftSp K B.W.T sp (permA n m pm vs zs) H2 Q E :=
  ⟨σ, F, _, Rl, q, fun ds qds F1 H1 vs g1 d1 r1 => ⟨σ, F1, _, Rl.grow g1 d1, qds, fun zs qzs F2 H2 ws g2 d2 r2 => ⟨B.W.p, F2, _, Qd, R, g2.fh, d2, Reps.of_pair (paired_perm (r1.mono g2.ff).pair r2.pair), qzs,
    fun d qd F3 H3 v g3 d3 r3 => kf d qd F3 H3 v ((g1.trans g2).trans g3) d3 r3, hE.more ((Rl.base.trans g1).trans g2)⟩⟩⟩
theorem ed_callK (G : FnOk X.prog X.w X.K X.mg X.base (L2.CX X.prog X.w) k f fd ps (liftSp X.kn B.W.T sp)) (hr : Room k X.A) (hg : Gl X x) (hm : X.mg x = some (.ref f)) (hk : PySem.W.keepIn X.K (.ref f) = true) (hb : KBinds X.K fd ps ks (permA n m pm) (permA n m pm)) (hx : Passes (L2.CX X.prog X.w) X E) (hE : FinE B.W X.kn B.F B.H R E)
    (ha : AD B X (e :: es) fs) (hkw : KD B X kws fk) (hall : (backToKw pos (keywordEach kws X.env)).all (·.1.isSome) = true := by rfl) (hks : (backToKw pos (keywordEach kws X.env)).filterMap (·.1) = ks := by rfl)
    (hdb : (x == ("__debug__" : Str)) = false := by decide) (he : starEach (e :: es) X.env = (false, eval e X.env) :: starEach es X.env := by rfl)
    (hpl : ((backTo pos (starEach (e :: es) X.env)).any (·.1) || (backToKw pos (keywordEach kws X.env)).any (·.1.isNone)) = false := by rfl) :
    ED B X (.Call (.Name x p) (e :: es) kws pos) (gCallK sp n m pm B.W.p R fs fk) :=
  ⟨pe_imp (pe_callK G hr hg hm hk hb hx ha.run hkw.run hall hks hdb he hpl) fun s H Q ⟨σ, F, Qd, Rl, q, kf⟩ => la_callK hE Rl q kf⟩
theorem ed_callK0 (G : FnOk X.prog X.w X.K X.mg X.base (L2.CX X.prog X.w) k f fd ps (liftSp X.kn B.W.T sp)) (hr : Room k X.A) (hg : Gl X x) (hm : X.mg x = some (.ref f)) (hk : PySem.W.keepIn X.K (.ref f) = true) (hb : KBinds X.K fd ps ks (permA n m pm) (permA n m pm)) (hx : Passes (L2.CX X.prog X.w) X E) (hE : FinE B.W X.kn B.F B.H R E)
    (hkw : KD B X kws fk) (hall : (backToKw pos (keywordEach kws X.env)).all (·.1.isSome) = true := by rfl) (hks : (backToKw pos (keywordEach kws X.env)).filterMap (·.1) = ks := by rfl)
    (hdb : (x == ("__debug__" : Str)) = false := by decide)
    (hpl : ((backTo pos (starEach [] X.env)).any (·.1) || (backToKw pos (keywordEach kws X.env)).any (·.1.isNone)) = false := by rfl) :
    ED B X (.Call (.Name x p) [] kws pos) (gCallK sp n m pm B.W.p R gNil fk) :=
  ⟨pe_imp (pe_callK0 G hr hg hm hk hb hx hkw.run hall hks hdb hpl) fun s H Q ⟨σ, F, Qd, Rl, q, kf⟩ => ⟨σ, F, _, Rl, q, fun zs qzs F2 H2 ws g2 d2 r2 => ⟨B.W.p, F2, _, Qd, R, g2.fh, d2, Reps.of_pair (paired_perm .nil r2.pair), qzs,
    fun d qd F3 H3 v g3 d3 r3 => kf d qd F3 H3 v (g2.trans g3) d3 r3, hE.more (Rl.base.trans g2)⟩⟩⟩
end
end ND

/-! ND5: statements, loops -/
namespace ND
open PySem PySem.Spec L2
open PyProof.Rows (envOfC)

/-- what is wanted behind a statement, by data -/
structure Ed where
  nx : List SV → Prop
  rt : D → Prop
  bk : List SV → Prop
  ct : List SV → Prop
abbrev GS := Ed → List SV → Prop
structure EdOk (B : Bs) (K : Kn) (F : Hp) (E : Ed) (Dn : Ends) : Prop where
  nx : ∀ σ s F' H, Same F F' → Rel B K σ s F' H → E.nx σ → Dn.nx s H
  rt : ∀ d v F' H, Grow B.W B.F B.H F' H → DeckIn B.W F' H → Rep K F' v d → E.rt d → Dn.rt v H
  bk : ∀ σ s F' H, Same F F' → Rel B K σ s F' H → E.bk σ → Dn.bk s H
  ct : ∀ σ s F' H, Same F F' → Rel B K σ s F' H → E.ct σ → Dn.ct s H
def LS (B : Bs) (K : Kn) (g : GS) : TS := fun Dn s H => ∃ σ F E, Rel B K σ s F H ∧ g E σ ∧ EdOk B K F E Dn
structure SD (B : Bs) (X : Cx) (st : Stmt) (g : GS) : Prop where
  run : PS X st (LS B X.kn g)
structure SDs (B : Bs) (X : Cx) (sts : List Stmt) (g : GS) : Prop where
  run : PSs X sts (LS B X.kn g)
theorem EdOk.more {B : Bs} {K : Kn} {F F' : Hp} {E : Ed} {Dn : Ends} (h : EdOk B K F E Dn) (e : Same F F') : EdOk B K F' E Dn :=
  ⟨fun σ s F2 H a => h.nx σ s F2 H (e.trans a), h.rt, fun σ s F2 H a => h.bk σ s F2 H (e.trans a), fun σ s F2 H a => h.ct σ s F2 H (e.trans a)⟩
theorem ps_imp {X : Cx} {st : Stmt} {t t' : TS} (h : PS X st t) (w : ∀ Dn s H, t' Dn s H → t Dn s H) : PS X st t' := ⟨fun pins s σ H Dn I q => h.run pins s σ H Dn I (w _ _ _ q)⟩
theorem pss_imp {X : Cx} {st : List Stmt} {t t' : TS} (h : PSs X st t) (w : ∀ Dn s H, t' Dn s H → t Dn s H) : PSs X st t' := ⟨fun pins s σ H Dn I q => h.run pins s σ H Dn I (w _ _ _ q)⟩

@[simp] def gSkip (E : Ed) (σ : List SV) : Prop := E.nx σ
@[simp] def gSeq (g h : GS) (E : Ed) (σ : List SV) : Prop := g { E with nx := h E } σ
@[simp] def gDrop (fa : GE) (E : Ed) (σ : List SV) : Prop := fa σ fun _ => E.nx σ
@[simp] def gSet (i : Nat) (fa : GE) (E : Ed) (σ : List SV) : Prop := fa σ fun d => E.nx (σ.set i (.d d))
@[simp] def gSetL (i : Nat) (fa : GA) (E : Ed) (σ : List SV) : Prop := fa σ fun ds => E.nx (σ.set i (.ol ds))
@[simp] def gRet (fa : GE) (E : Ed) (σ : List SV) : Prop := fa σ E.rt
@[simp] def gRetN (E : Ed) (_ : List SV) : Prop := E.rt .non
@[simp] def gIfS (ft : GT) (g h : GS) (E : Ed) (σ : List SV) : Prop := ft σ fun b => if b = true then g E σ else h E σ
@[simp] def gBrk (E : Ed) (σ : List SV) : Prop := E.bk σ
@[simp] def gCnt (E : Ed) (σ : List SV) : Prop := E.ct σ
@[simp] def gNever (_ : Ed) (_ : List SV) : Prop := False
/-- a slot of one's own becomes data -/
def fz (i : Nat) (σ : List SV) : List SV := match σ[i]? with
  | some (.ol xs) => σ.set i (.d (.lst xs))
  | some (.od ks) => σ.set i (.d (.dic ks))
  | _ => σ
def gFz (i : Nat) (g : GS) : GS := fun E σ => g E (fz i σ)

section
variable {B : Bs} {X : Cx} {e a b c : Expr} {es : List Expr} {fa fb : GE} {fs : GA} {ft : GT} {g h : GS} {pos : Pos} {st : Stmt} {rest sts sts' : List Stmt}
theorem sds_nil : SDs B X [] gSkip := ⟨pss_imp pss_nil fun Dn s H ⟨σ, F, E, R, q, k⟩ => k.nx σ s F H (Same.refl F) R q⟩
theorem sds_cons (h1 : SD B X st g) (h2 : SDs B X rest h) : SDs B X (st :: rest) (gSeq g h) :=
  ⟨pss_imp (pss_cons h1.run h2.run) fun Dn s H ⟨σ, F, E, R, q, k⟩ => ⟨σ, F, { E with nx := h E }, R, q, ⟨fun σ' s' F' H' e R' q' => ⟨σ', F', E, R', q', k.more e⟩, k.rt, k.bk, k.ct⟩⟩⟩
theorem sds_one (h1 : SD B X st g) : SDs B X [st] g := ⟨pss_one h1.run⟩
theorem sd_pass : SD B X (.Pass pos) gSkip := ⟨ps_imp ps_pass fun Dn s H ⟨σ, F, E, R, q, k⟩ => k.nx σ s F H (Same.refl F) R q⟩
theorem sd_break : SD B X (.Break pos) gBrk := ⟨ps_imp ps_break fun Dn s H ⟨σ, F, E, R, q, k⟩ => k.bk σ s F H (Same.refl F) R q⟩
theorem sd_continue : SD B X (.Continue pos) gCnt := ⟨ps_imp ps_continue fun Dn s H ⟨σ, F, E, R, q, k⟩ => k.ct σ s F H (Same.refl F) R q⟩
theorem sd_never : SD B X st gNever := ⟨⟨fun _ _ _ _ _ _ ⟨_, _, _, _, q, _⟩ => q.elim⟩⟩
theorem sd_drop (ha : BD B X e fa) (hs : swapsWith e none pos.line X.env = pure false := by rfl) : SD B X (.Expr e pos) (gDrop fa) :=
  ⟨ps_imp (ps_expr ha.run hs) fun Dn s H ⟨σ, F, E, R, q, k⟩ => ⟨σ, F, _, R, q, fun d qd F' H' v g dk r => k.nx σ s F' H' g.ff (R.grow g dk) qd⟩⟩
theorem sd_set {i : Nat} {x : Str} {pos' : Pos} (hN : X.N.Nodup) (hi : X.N[i]? = some x) (hx : Loc X.env.scope x) (ha : ED B X e fa) (hs : swapsWith e (some (.Name x pos')) pos.line X.env = pure false := by rfl) (hf : X.fn x = true ∨ X.env.scope.names.lookup x = some .local := by first | exact .inl rfl | exact .inr rfl | assumption) :
    SD B X (.Assign [.Name x pos'] e pos) (gSet i fa) :=
  ⟨ps_imp (ps_set hN hi hx ha.run hs hf) fun Dn s H ⟨σ, F, E, R, q, k⟩ => ⟨σ, F, _, R, q, fun d qd F' H' v g dk r => k.nx _ _ F' H' g.ff ((R.grow g dk).set r) qd⟩⟩
theorem sd_setL {i : Nat} {x : Str} {pos' : Pos} (hN : X.N.Nodup) (hi : X.N[i]? = some x) (hx : Loc X.env.scope x) (ha : FD B X e fs) (hs : swapsWith e (some (.Name x pos')) pos.line X.env = pure false := by rfl) (hf : X.fn x = true ∨ X.env.scope.names.lookup x = some .local := by first | exact .inl rfl | exact .inr rfl | assumption) :
    SD B X (.Assign [.Name x pos'] e pos) (gSetL i fs) :=
  ⟨ps_imp (ps_set hN hi hx ha.run hs hf) fun Dn s H ⟨σ, F, E, R, q, k⟩ => ⟨σ, F, _, R, q, fun ds qd F' H' p vs g dk hp fp ep r => k.nx _ _ F' H' g.ff (R.setNew (x := .ol ds) g dk hp fp ⟨rfl, vs, ep, r⟩) qd⟩⟩
theorem sd_ret (ha : ED B X e fa) : SD B X (.Return (some e) pos) (gRet fa) :=
  ⟨ps_imp (ps_ret ha.run) fun Dn s H ⟨σ, F, E, R, q, k⟩ => ⟨σ, F, _, R, q, fun d qd F' H' v g dk r => k.rt d v F' H' (R.base.trans g) dk r qd⟩⟩
theorem sd_retN : SD B X (.Return none pos) gRetN := ⟨ps_imp ps_retN fun Dn s H ⟨σ, F, E, R, q, k⟩ => k.rt .non _ F H R.base R.deck .non q⟩
theorem sd_if (hc : TD B X c ft) (h1 : SDs B X sts g) (h2 : SDs B X sts' h) : SD B X (.If c sts sts' pos) (gIfS ft g h) :=
  ⟨ps_imp (ps_if hc.run h1.run h2.run) fun Dn s H ⟨σ, F, E, R, q, k⟩ => ⟨σ, F, _, R, q, fun d qd F' H' g dk => by
    cases d with
    | true => exact ⟨σ, F', E, R.grow g dk, qd, k.more g.ff⟩
    | false => exact ⟨σ, F', E, R.grow g dk, qd, k.more g.ff⟩⟩⟩
theorem ls_fz {K : Kn} {i : Nat} {Dn : Ends} {s : L2.St} {H : Hp} (h : LS B K (gFz i g) Dn s H) : LS B K g Dn s H := by
  obtain ⟨σ, F, E, R, q, k⟩ := h
  unfold gFz fz at q
  split at q
  · rename_i xs e
    obtain ⟨a, vs, h1, h2, h3, h4, h5, h6⟩ := R.ownL e
    exact ⟨_, upd F a (.lst vs), E, R.freeze e h1 h2 h5 h6 h4 (.inl ⟨_, rfl⟩) (.lst upd_same (h3.mono (same_new h5))), q, k.more (same_new h5)⟩
  · rename_i xs e
    obtain ⟨a, vs, h1, h2, h3, h4, h5, h6⟩ := R.ownD e
    exact ⟨_, upd F a (.dK vs), E, R.freeze e h1 h2 h5 h6 h4 (.inr (.inl ⟨_, rfl⟩)) (.dic upd_same (h3.mono (same_new h5))), q, k.more (same_new h5)⟩
  · exact ⟨σ, F, E, R, q, k⟩
theorem sd_fz (i : Nat) (h : SD B X st g) : SD B X st (gFz i g) := ⟨ps_imp h.run fun _ _ _ q => ls_fz q⟩

/-! ### several targets -/
/-- the slots is take the data ds -/
@[simp] def setAll : List Nat → List D → List SV → List SV
  | i :: is, d :: ds, σ => setAll is ds (σ.set i (.d d))
  | _, _, σ => σ
def setAllV : List Nat → List V → L2.St → L2.St
  | i :: is, v :: vs, s => setAllV is vs (s.set i (some v))
  | _, _, s => s
theorem Rel.sets {K : Kn} {F H : Hp} : ∀ {is : List Nat} {ds : List D} {vs : List V} {σ : List SV} {s : L2.St}, Rel B K σ s F H → Reps K F vs ds → Rel B K (setAll is ds σ) (setAllV is vs s) F H
  | [], ds, vs, σ, s, R, h => by
    cases ds <;> cases vs <;> exact R
  | i :: is, [], vs, σ, s, R, h => by
    cases h
    exact R
  | i :: is, d :: ds, vs, σ, s, R, h => by
    cases h with
    | @cons v vs _ _ r t =>
      show Rel B K (ND.setAll is ds (σ.set i (.d d))) (setAllV is vs (s.set i (some v))) F H
      exact Rel.sets (R.set r) t
def unT (n : Nat) (d : D) (Q : List D → Prop) : Prop := ∃ ds, d = .tup ds ∧ ds.length = n ∧ Q ds
@[simp] theorem unT_t (n : Nat) (b : List D) (Q : List D → Prop) : unT n (.tup b) Q ↔ b.length = n ∧ Q b := ⟨fun ⟨_, e, q⟩ => by cases e; exact q, fun q => ⟨b, rfl, q⟩⟩
@[simp] def gSetT (is : List Nat) (fa : GE) (E : Ed) (σ : List SV) : Prop := fa σ fun d => unT is.length d fun ds => E.nx (setAll is ds σ)
/-- targets: names in the slots is -/
structure NamesAt (X : Cx) (ts : List Expr) (is : List Nat) : Prop where
  run : PGs X ts fun vs σ H Q => vs.length = is.length ∧ Q (setAllV is vs σ) H
theorem na_nil : NamesAt X [] [] := ⟨⟨fun pins s σ H vs us Q I r h => by
  obtain ⟨h1, h2⟩ := h
  cases vs with
  | nil => exact pgs_nil.run pins s σ H [] us Q I r ⟨rfl, h2⟩
  | cons _ _ => simp at h1⟩⟩
theorem na_cons {i : Nat} {is : List Nat} {t : Expr} {ts : List Expr} (h1 : PG X t (gName i)) (h2 : NamesAt X ts is) (hs : (assignEach (t :: ts) X.env).map (·.2) = assign t X.env :: (assignEach ts X.env).map (·.2) := by rfl) : NamesAt X (t :: ts) (i :: is) := ⟨⟨fun pins s σ H vs us Q I r h => by
  obtain ⟨hl, hq⟩ := h
  cases vs with
  | nil => simp at hl
  | cons v vs => exact (pgs_cons h1 h2.run hs).run pins s σ H _ us Q I r ⟨v, vs, rfl, by simpa using hl, hq⟩⟩⟩
theorem sd_setT {is : List Nat} {ts : List Expr} {kt : Nat} {pt : Pos} (hc : X.calm = true) (hn : NamesAt X ts is) (ha : ED B X e fa) (hs : swapsWithSole [.Tuple ts kt pt] e pos.line X.env = pure false := by rfl) (hw : swappedStores [.Tuple ts kt pt] e X.env = pure none := by rfl)
    (h1 : (assignEach [.Tuple ts kt pt] X.env).map (·.2) = [assign (.Tuple ts kt pt) X.env] := by rfl) (hl : (assignEach ts X.env).length = is.length := by rfl) (hst : (assignEach ts X.env).findIdx? (·.1) = none := by rfl) :
    SD B X (.Assign [.Tuple ts kt pt] e pos) (gSetT is fa) :=
  ⟨ps_imp (ps_asg ha.run (pg_tup hc hn.run hl hst) hs hw h1) fun Dn s H ⟨σ, F, E, R, q, k⟩ => ⟨σ, F, _, R, q, fun d ⟨ds, e, hl, qd⟩ F' H' v g dk r => by
    subst e
    cases r with
    | tup h r => exact ⟨_, _, rfl, same_t g.fh h, by rw [r.length]; exact hl, by rw [r.length]; exact hl, k.nx _ _ F' H' g.ff ((R.grow g dk).sets r) qd⟩⟩⟩
/-- a, b = x, y with plain local names -/
@[simp] def gPar (is : List Nat) (fs : GA) (E : Ed) (σ : List SV) : Prop := fs σ fun ds => ds.length = is.length ∧ E.nx (setAll is ds σ)
theorem sd_par2 {i j : Nat} {x y : Str} {px py pt : Pos} {kt k2 pt2} (hc : X.calm = true) (hN : X.N.Nodup) (hi : X.N[i]? = some x) (hj : X.N[j]? = some y) (hij : i ≠ j)
    (hx : X.env.scope.names.lookup x = some .local) (hy : X.env.scope.names.lookup y = some .local) (ha : AD B X [a, b] fs)
    (hw : swappedStores [.Tuple [.Name x px, .Name y py] kt pt] (.Tuple [a, b] k2 pt2) X.env = pure (some [x, y]))
    (hs : swapsWithSole [.Tuple [.Name x px, .Name y py] kt pt] (.Tuple [a, b] k2 pt2) pos.line X.env = pure false := by rfl) :
    SD B X (.Assign [.Tuple [.Name x px, .Name y py] kt pt] (.Tuple [a, b] k2 pt2) pos) (gPar [i, j] fs) :=
  ⟨ps_imp (ps_par hc hN hi hj hij hx hy ha.run hw hs) fun Dn s H ⟨σ, F, E, R, q, k⟩ => ⟨σ, F, _, R, q, fun ds ⟨hl, qd⟩ F' H' vs g dk r => by
    have R2 := (R.grow g dk).sets (is := [i, j]) r
    cases r with
    | nil => simp at hl
    | cons r1 r =>
      cases r with
      | nil => simp at hl
      | cons r2 r =>
        cases r with
        | cons _ _ => simp at hl
        | nil => exact ⟨_, _, rfl, k.nx _ _ F' H' g.ff R2 qd⟩⟩⟩
theorem sd_par3 {i j l : Nat} {x y z : Str} {px py pz pt : Pos} {kt k2 pt2} (hc : X.calm = true) (hN : X.N.Nodup) (hi : X.N[i]? = some x) (hj : X.N[j]? = some y) (hl : X.N[l]? = some z) (hij : i ≠ j) (hil : i ≠ l) (hjl : j ≠ l)
    (hx : X.env.scope.names.lookup x = some .local) (hy : X.env.scope.names.lookup y = some .local) (hz : X.env.scope.names.lookup z = some .local) (ha : AD B X [a, b, c] fs)
    (hw : swappedStores [.Tuple [.Name x px, .Name y py, .Name z pz] kt pt] (.Tuple [a, b, c] k2 pt2) X.env = pure (some [x, y, z]))
    (hs : swapsWithSole [.Tuple [.Name x px, .Name y py, .Name z pz] kt pt] (.Tuple [a, b, c] k2 pt2) pos.line X.env = pure false := by rfl) :
    SD B X (.Assign [.Tuple [.Name x px, .Name y py, .Name z pz] kt pt] (.Tuple [a, b, c] k2 pt2) pos) (gPar [i, j, l] fs) :=
  ⟨ps_imp (ps_par3 hc hN hi hj hl hij hil hjl hx hy hz ha.run hw hs) fun Dn s H ⟨σ, F, E, R, q, k⟩ => ⟨σ, F, _, R, q, fun ds ⟨hl, qd⟩ F' H' vs g dk r => by
    have R2 := (R.grow g dk).sets (is := [i, j, l]) r
    cases r with
    | nil => simp at hl
    | cons r1 r =>
      cases r with
      | nil => simp at hl
      | cons r2 r =>
        cases r with
        | nil => simp at hl
        | cons r3 r =>
          cases r with
          | cons _ _ => simp at hl
          | nil => exact ⟨_, _, _, rfl, k.nx _ _ F' H' g.ff R2 qd⟩⟩⟩

/-! ### x op= e; xs[i] = e; xs.append(e) -/
def gAug (i : Nat) (gop : D → D → (D → Prop) → Prop) (fa : GE) : GS := fun E σ => ∃ x, σ[i]? = some (.d x) ∧ fa σ fun y => gop x y fun z => E.nx (σ.set i (.d z))
theorem sd_aug {i : Nat} {x : Str} {op : Operator} {gop : D → D → (D → Prop) → Prop} {pos' : Pos} (hN : X.N.Nodup) (hi : X.N[i]? = some x) (hx : Loc X.env.scope x) (ha : BD B X e fa) (ho : OpR X (inplaceOp op) (LO2 B X.kn gop)) (hf : X.fn x = true ∨ X.env.scope.names.lookup x = some .local := by first | exact .inl rfl | exact .inr rfl | assumption) :
    SD B X (.AugAssign (.Name x pos') op e pos) (gAug i gop fa) :=
  ⟨ps_imp (ps_aug hN hi hx ha.run (ti := LO2 B X.kn gop) ho hf) fun Dn s H ⟨σ, F, E, R, ⟨y, e1, q⟩, k⟩ => by
    obtain ⟨v, h1, h2⟩ := R.dat e1
    exact ⟨v, h1, σ, F, _, R, q, fun d qd F' H' u g dk r => ⟨F', y, d, _, g.fh, dk, .inl (h2.mono g.ff), r, qd, fun z qz F2 H2 w g2 dk2 r2 => k.nx _ _ F2 H2 (g.ff.trans g2.ff) ((R.grow (g.trans g2) dk2).set r2) qz⟩⟩⟩
def iaddD : D → D → (D → Prop) → Prop
  | .int i, .int j, Q => Q (.int (i + j))
  | .str i, .str j, Q => i.length + j.length ≤ sizeLine ∧ Q (.str (i ++ j))
  | _, _, _ => False
theorem o_iadd : OpR X (inplaceOp .Add) (LO2 B X.kn iaddD) := opR_by fun v u H Q ⟨F, x, y, Qd, e, dk, r1, r2, q, k⟩ => by
  unfold iaddD at q
  split at q
  · exact ⟨_, iop_add, _, _, r1.int, r2.int, k.here e dk q (.int _)⟩
  · exact ⟨_, iop_add_str, _, _, r1.str, r2.str, q.1, k.here e dk q.2 (.str _)⟩
  · exact q.elim
theorem o_isub : OpR X (inplaceOp .Sub) (LO2 B X.kn subD) := opR_by fun v u H Q ⟨F, x, y, Qd, e, dk, r1, r2, q, k⟩ => by
  unfold subD at q
  split at q
  · exact ⟨_, iop_sub, _, _, r1.int, r2.int, k.here e dk q (.int _)⟩
  · exact q.elim
/-- xs[i] = e, xs of one's own -/
def gSetI (k : Nat) (fe fi : GE) : GS := fun E σ => ∃ xs, σ[k]? = some (.ol xs) ∧ fe σ fun x => fi σ fun d => ∃ i j, d = .int i ∧ ixN xs.length i = some j ∧ E.nx (σ.set k (.ol (xs.set j x)))
theorem sd_setI {k : Nat} {x : Str} {i : Expr} {px pt : Pos} {fe fi : GE} (hv : PE X (.Name x px) (tVar k)) (he : ED B X e fe) (hi : BD B X i fi) (hs : swapsWithSole [.Subscript (.Name x px) i pt] e pos.line X.env = pure false := by rfl) (hw : swappedStores [.Subscript (.Name x px) i pt] e X.env = pure none := by rfl)
    (h1 : (assignEach [.Subscript (.Name x px) i pt] X.env).map (·.2) = [assign (.Subscript (.Name x px) i pt) X.env] := by rfl)
    (ha : ∀ v, assign (.Subscript (.Name x px) i pt) X.env v = (do
      let ov ← holding [v] (eval (.Name x px) X.env)
      let iv ← holding [v, ov] (eval i X.env)
      standAt pt
      holding [v, ov, iv] (setItem ov iv v)
      release [v, ov, iv] []) := by intro _; rfl) : SD B X (.Assign [.Subscript (.Name x px) i pt] e pos) (gSetI k fe fi) :=
  ⟨ps_imp (ps_asg he.run (pg_sub hv hi.run set_list ha) hs hw h1) fun Dn s H ⟨σ, F, E, R, ⟨xs, eo, q⟩, kk⟩ => by
    obtain ⟨a, _, s1, _⟩ := R.ownL eo
    exact ⟨σ, F, _, R, q, fun d qd F1 H1 v g1 d1 r1 => ⟨.ref a, s1, σ, F1, _, R.grow g1 d1, qd, fun d2 ⟨i, j, e2, hj, qn⟩ F2 H2 u g2 dk2 r2 => by
      subst e2
      have R2 := R.grow (g1.trans g2) dk2
      obtain ⟨a', vs, s2, h2, h3, h4, h5, h6⟩ := R2.ownL eo
      rw [s1] at s2
      cases s2
      refine ⟨a, vs, i, j, rfl, r2.int, h2, by rw [h3.length]; exact hj, ?_⟩
      exact kk.nx _ _ F2 _ (g1.ff.trans g2.ff) (R2.write eo (.inl ⟨_, rfl⟩) s1 (x := .ol (xs.set j d)) ⟨rfl, _, upd_same, h3.set (r1.mono g2.ff) j⟩) qn⟩⟩⟩
/-- xs[i] op= e, ints -/
theorem getItem_lst {X : Cx} : PGet X (rIxL X.K) := fun pins s σ H o i ov iv Q I eo ei ⟨a, xs, k, z, ea, ek, stands, found, q⟩ => by
  subst ea ek
  obtain ⟨t, rfl⟩ := ei
  cases eo
  obtain ⟨its, same, plain, _⟩ := I.list stands
  obtain ⟨j, place, item, _, low, high⟩ := atI_get found
  obtain ⟨w, ew, is⟩ := same.get item
  have cnt := same.length
  have top := line63
  have at_j : its.toArray[j]? = some w := by simpa using ew
  rcases Int.lt_or_le k 0 with neg | pos
  · rw [seqIndex_neg neg low] at place
    have e : (k + (its.toArray.size : Int)).toNat = j := by
      rw [List.size_toArray, ← cnt]
      exact Option.some.inj place
    exact wpAny_getItem_list_neg plain.isList neg (by rw [List.size_toArray] <;> omega) (by omega) (e ▸ at_j) ⟨z, H, I, is, q⟩
  · rw [seqIndex_of pos high] at place
    exact wpAny_getItem_list plain.isList pos (by omega) (Option.some.inj place ▸ at_j) ⟨z, H, I, is, q⟩
def gAugI (k : Nat) (gop : D → D → (D → Prop) → Prop) (fi fe : GE) : GS := fun E σ => ∃ xs, σ[k]? = some (.ol xs) ∧ fi σ fun d => ∃ i j x, d = .int i ∧ ixN xs.length i = some j ∧ xs[j]? = some x ∧ fe σ fun y => gop x y fun z => E.nx (σ.set k (.ol (xs.set j z)))
theorem sd_augI {k : Nat} {x : Str} {i : Expr} {op : Operator} {gop : D → D → (D → Prop) → Prop} {px pt : Pos} {fe fi : GE} (hv : PE X (.Name x px) (tVar k)) (hi : BD B X i fi) (he : BD B X e fe) (ho : OpR X (inplaceOp op) (LO2 B X.kn gop))
    (ha : ∀ ov iv new, augStore i ov iv new = (do holding [new, ov, iv] (setItem ov iv new); release [new, ov, iv] []; pure .next) := by intros; rfl) : SD B X (.AugAssign (.Subscript (.Name x px) i pt) op e pos) (gAugI k gop fi fe) :=
  ⟨ps_imp (ps_augS hv hi.run getItem_lst he.run (tip := LO2 B X.kn gop) ho set_list ha) fun Dn s H ⟨σ, F, E, R, ⟨xs, eo, q⟩, kk⟩ => by
    obtain ⟨a, _, s1, _⟩ := R.ownL eo
    refine ⟨.ref a, s1, σ, F, _, R, q, fun d1 ⟨i, j, z, e1, hj, hz, q1⟩ F1 H1 u g1 d1 r1 => ?_⟩
    subst e1
    have R1 := R.grow g1 d1
    obtain ⟨a', vs, s2, h2, h3, h4, h5, h6⟩ := R1.ownL eo
    rw [s1] at s2
    cases s2
    obtain ⟨zv, hzv, rz⟩ := h3.get hz
    have hat : L2.atI vs i = some zv := by
      unfold L2.atI
      rw [h3.length, hj]
      exact hzv
    refine ⟨a, vs, i, zv, rfl, r1.int, SqL.of h2, hat, σ, F1, _, R1, q1, fun y qy F2 H2 w g2 dk2 r2 => ?_⟩
    refine ⟨F2, z, y, _, g2.fh, dk2, .inl (rz.mono g2.ff), r2, qy, fun z' qz F3 H3 w3 g3 dk3 r3 => ?_⟩
    have R3 := R1.grow (g2.trans g3) dk3
    obtain ⟨a', vs3, s3, k2, k3, k4, k5, k6⟩ := R3.ownL eo
    rw [s1] at s3
    cases s3
    refine ⟨a, vs3, i, j, rfl, r1.int, k2, by rw [k3.length]; exact hj, ?_⟩
    exact kk.nx _ _ F3 _ ((g1.ff.trans g2.ff).trans g3.ff) (R3.write eo (.inl ⟨_, rfl⟩) s1 (x := .ol (xs.set j z')) ⟨rfl, _, upd_same, k3.set r3 j⟩) qz⟩
/-- xs.append(e) -/
def gApp (k : Nat) (fe : GE) : GS := fun E σ => ∃ xs, σ[k]? = some (.ol xs) ∧ fe σ fun x => xs.length < sizeLine ∧ E.nx (σ.set k (.ol (xs ++ [x])))
theorem sd_app {k : Nat} {x : Str} {px apos cpos : Pos} {fe : GE} (h : PE X (.Call (.Attribute (.Name x px) "append" apos) [e] [] cpos) (tBM X.K "list" rAppend (tVar k) (tCons (LE B X.kn fe) tNil))) (hs : swapsWith (.Call (.Attribute (.Name x px) "append" apos) [e] [] cpos) none pos.line X.env = pure false := by rfl) :
    SD B X (.Expr (.Call (.Attribute (.Name x px) "append" apos) [e] [] cpos) pos) (gApp k fe) :=
  ⟨ps_imp (ps_expr h hs) fun Dn s H ⟨σ, F, E, R, ⟨xs, eo, q⟩, kk⟩ => by
    obtain ⟨a, _, s1, h1, _⟩ := R.ownL eo
    refine ⟨.ref a, s1, .inl ⟨rfl, _, .inl (.inl h1)⟩, σ, F, _, R, q, fun d ⟨hz, qd⟩ F1 H1 v g1 d1 r1 => ?_⟩
    have R1 := R.grow g1 d1
    obtain ⟨a', vs, s2, h2, h3, h4, h5, h6⟩ := R1.ownL eo
    rw [s1] at s2
    cases s2
    exact ⟨a, vs, v, rfl, rfl, h2, by rw [h3.length]; exact hz, kk.nx _ _ F1 _ g1.ff (R1.write eo (.inl ⟨_, rfl⟩) s1 (x := .ol (xs ++ [d])) ⟨rfl, _, upd_same, h3.append (.cons r1 .nil)⟩) qd⟩⟩

/-! ### while -/
/-- an invariant with a measure -/
def gWhile (ft : GT) (g : GS) : GS := fun E σ => ∃ I : Nat → List SV → Prop, (∃ m, I m σ) ∧ ∀ m σ', I m σ' → ft σ' fun b => if b = true then g { E with nx := fun σ2 => ∃ m', m' < m ∧ I m' σ2, ct := fun σ2 => ∃ m', m' < m ∧ I m' σ2, bk := E.nx } σ' else E.nx σ'
theorem sd_while (hp : PassesOwn (model X.prog X.w) X.A X.env X.xe) (hc : TD B X c ft) (hb : SDs B X sts g) : SD B X (.While c sts [] pos) (gWhile ft g) :=
  ⟨ps_imp (ps_while hp hc.run hb.run) fun Dn s H ⟨σ, F, E, R, ⟨I, ⟨m0, h0⟩, q⟩, kk⟩ => by
    refine ⟨fun m s' H' => ∃ σ' F', Same F F' ∧ Rel B X.kn σ' s' F' H' ∧ I m σ', ⟨m0, σ, F, Same.refl F, R, h0⟩, ?_⟩
    rintro m s' H' ⟨σ', F', e', R', i'⟩
    refine ⟨σ', F', _, R', q m σ' i', fun b qb F2 H2 g2 dk2 => ?_⟩
    have R2 := R'.grow g2 dk2
    cases b with
    | true =>
      refine ⟨fun s3 H3 => ∃ σ3 F3, Same F F3 ∧ Rel B X.kn σ3 s3 F3 H3 ∧ ∃ m', m' < m ∧ I m' σ3, ?_, σ', F2, _, R2, qb, ?_⟩
      · rintro s3 H3 ⟨σ3, F3, e3, R3, m', hm, i3⟩
        exact ⟨m', hm, σ3, F3, e3, R3, i3⟩
      · have eF := e'.trans g2.ff
        exact ⟨fun σ3 s3 F3 H3 a r q3 => ⟨σ3, F3, eF.trans a, r, q3⟩, kk.rt, fun σ3 s3 F3 H3 a r q3 => kk.nx σ3 s3 F3 H3 (eF.trans a) r q3, fun σ3 s3 F3 H3 a r q3 => ⟨σ3, F3, eF.trans a, r, q3⟩⟩
    | false => exact kk.nx σ' s' F2 H2 (e'.trans g2.ff) R2 qb⟩

/-! ### for -/
/-- J gives the items ds -/
structure ItOk (B : Bs) (K : Kn) (J : It) (ds : List D) (F : Hp) : Prop where
  go : ∀ (F' H' : Hp) i d, Same F F' → Same F' H' → DeckIn B.W F' H' → ds[i]? = some d → J.go i H' ∧ ∀ x H'', J.yld i H' x H'' → ∃ F'', Grow B.W F' H' F'' H'' ∧ DeckIn B.W F'' H'' ∧ Rep K F'' x d
  stop : ∀ (F' H' : Hp) i, Same F F' → Same F' H' → ds.length ≤ i → J.stop i H'
def LI (B : Bs) (K : Kn) (f : GA) : TI := fun s H R => ∃ σ F Qd, Rel B K σ s F H ∧ f σ Qd ∧ ∀ ds, Qd ds → ∀ F' H' J, Grow B.W F H F' H' → DeckIn B.W F' H' → ItOk B K J ds F' → R J H'
structure PID (B : Bs) (X : Cx) (tg iter : Expr) (f : GA) : Prop where
  run : PI X tg iter (LI B X.kn f)
theorem pi_imp {tg : Expr} {t t' : TI} (h : PI X tg e t) (w : ∀ s H R, t' s H R → t s H R) : PI X tg e t' := ⟨fun pins s σ H R I q => h.run pins s σ H R I (w _ _ _ q)⟩
theorem itOk_list {K : Kn} {a : Addr} {vs : List V} {ds : List D} {F : Hp} (h : F a = some (.lst vs)) (r : Reps K F vs ds) : ItOk B K (Itl K.K a) ds F := by
  refine ⟨fun F' H' i d e1 e2 dk hd => ?_, fun F' H' i e1 e2 hi => ⟨vs, SqL.of (e2 _ _ (e1 _ _ h)), by rw [r.length]; exact hi⟩⟩
  have ha : H' a = some (.lst vs) := e2 _ _ (e1 _ _ h)
  obtain ⟨v, hv, rv⟩ := r.get hd
  refine ⟨⟨vs, v, SqL.of ha, hv⟩, fun x H'' ⟨e, f⟩ => ?_⟩
  subst e
  have := f vs (SqL.of ha)
  rw [hv] at this
  cases this
  exact ⟨F', Grow.refl e2, dk, rv.mono e1⟩
theorem itOk_tup {K : Kn} {a : Addr} {vs : List V} {ds : List D} {F : Hp} (h : SqT K.K F a vs) (r : Reps K F vs ds) : ItOk B K (Itt K.K a) ds F := by
  refine ⟨fun F' H' i d e1 e2 dk hd => ?_, fun F' H' i e1 e2 hi => ⟨vs, same_t e2 (same_t e1 h), by rw [r.length]; exact hi⟩⟩
  have ha : SqT K.K H' a vs := same_t e2 (same_t e1 h)
  obtain ⟨v, hv, rv⟩ := r.get hd
  refine ⟨⟨vs, v, ha, hv⟩, fun x H'' ⟨e, f⟩ => ?_⟩
  subst e
  have := f vs ha
  rw [hv] at this
  cases this
  exact ⟨F', Grow.refl e2, dk, rv.mono e1⟩
def intsFrom (lo : Int) (n : Nat) : List D := (List.range n).map fun (i : Nat) => D.int (lo + (i : Int))
theorem itOk_range {K : Kn} {lo : Int} {n : Nat} {F : Hp} : ItOk B K (Itr lo n) (intsFrom lo n) F := by
  refine ⟨fun F' H' i d e1 e2 dk hd => ?_, fun F' H' i e1 e2 hi => by (show n ≤ i); simpa [intsFrom] using hi⟩
  unfold intsFrom at hd
  rw [List.getElem?_map] at hd
  have hi : i < n := by
    have := (List.getElem?_eq_some_iff.mp (Option.map_eq_some_iff.mp hd).choose_spec.1).1
    simpa using this
  refine ⟨hi, fun x H'' ⟨e, f⟩ => ?_⟩
  subst e f
  rw [List.getElem?_range hi] at hd
  cases hd
  exact ⟨F', Grow.refl e2, dk, .int _⟩
/-- for x in e, e data: a list, a tuple -/
@[simp] def gIter (fa : GE) (σ : List SV) (Q : List D → Prop) : Prop := fa σ fun d => match d with | .tup xs => Q xs | .lst xs => Q xs | _ => False
theorem pid_data {tg : Expr} (ha : ED B X e fa) : PID B X tg e (gIter fa) := ⟨⟨fun pins s σv H R I ⟨σ, F, Qd, Rl, q, k⟩ => by
  refine thn (ha.run.run pins s σv H (fun v H1 => ∃ d F1, Grow B.W F H F1 H1 ∧ DeckIn B.W F1 H1 ∧ Rep X.kn F1 v d ∧ match d with | .tup xs => Qd xs | .lst xs => Qd xs | _ => False) I ⟨σ, F, _, Rl, q, fun d qd F1 H1 v g1 d1 r1 => ⟨d, F1, g1, d1, r1, qd⟩⟩) fun v s1 ⟨x, H1, I1, r1, d, F1, g1, d1, rd, qd⟩ => ?_
  cases rd with
  | tup h r =>
    cases r1
    obtain ⟨its, rv, p, hz⟩ := I1.tuple (same_t g1.fh h)
    refine wpAny_pyIter_tuple (show s1.heap.IsTuple _ its.toArray from p) ?_
    refine ⟨s1.heap.objs.size, [s1.heap.objs.size], _, _, H1, rfl, I1.kept (t' := s1.toks) fun b o e => Heap.get?_push_of_some _ e, turn_tuple _ _, ⟨_, Heap.get?_push_size _ rfl, rfl, rfl⟩, fun b hb => ?_, k _ qd F1 H1 _ g1 d1 (itOk_tup h r)⟩
    have e : b = s1.heap.objs.size := by simpa using hb
    subst e
    exact I1.fpOk (Nat.le_refl _) (I1.hok.fresh (Nat.le_refl _))
  | lst h r =>
    cases r1
    obtain ⟨its, rv, p, hz⟩ := I1.list (SqL.of (g1.fh _ _ h))
    refine wpAny_pyIter_list p.isList ?_
    refine ⟨s1.heap.objs.size, [s1.heap.objs.size], _, _, H1, rfl, I1.kept (t' := s1.toks) fun b o e => Heap.get?_push_of_some _ e, turn_list _ _, ⟨_, Heap.get?_push_size _ rfl, rfl, rfl⟩, fun b hb => ?_, k _ qd F1 H1 _ g1 d1 (itOk_list h r)⟩
    have e : b = s1.heap.objs.size := by simpa using hb
    subst e
    exact I1.fpOk (Nat.le_refl _) (I1.hok.fresh (Nat.le_refl _))
  | _ => exact False.elim qd⟩⟩
/-- range(n), range(a, b) -/
def rng1D (ds : List D) (Q : List D → Prop) : Prop := ∃ j, ds = [.int j] ∧ -(2 ^ 62) ≤ j ∧ j < 2 ^ 62 ∧ Q (intsFrom 0 j.toNat)
@[simp] theorem rng1D_i (j : Int) (Q : List D → Prop) : rng1D [.int j] Q ↔ -(2 ^ 62) ≤ j ∧ j < 2 ^ 62 ∧ Q (intsFrom 0 j.toNat) := ⟨fun ⟨_, e, q⟩ => by cases e; exact q, fun q => ⟨j, rfl, q⟩⟩
def rng2D (ds : List D) (Q : List D → Prop) : Prop := ∃ i j, ds = [.int i, .int j] ∧ (-(2 ^ 62) ≤ i ∧ i < 2 ^ 62 ∧ -(2 ^ 62) ≤ j ∧ j < 2 ^ 62) ∧ Q (intsFrom i (j - i).toNat)
@[simp] theorem rng2D_i (i j : Int) (Q : List D → Prop) : rng2D [.int i, .int j] Q ↔ (-(2 ^ 62) ≤ i ∧ i < 2 ^ 62 ∧ -(2 ^ 62) ≤ j ∧ j < 2 ^ 62) ∧ Q (intsFrom i (j - i).toNat) := ⟨fun ⟨_, _, e, q⟩ => by cases e; exact q, fun q => ⟨i, j, rfl, q⟩⟩
@[simp] def gRng1 (fs : GA) (σ : List SV) (Q : List D → Prop) : Prop := fs σ fun ds => rng1D ds Q
@[simp] def gRng2 (fs : GA) (σ : List SV) (Q : List D → Prop) : Prop := fs σ fun ds => rng2D ds Q
theorem pid_rng1 {tg : Expr} {p : Pos} {fs : GA} (hg : Gl X "range") (hm : X.mg "range" = none) (ha : AD B X [a] fs) (hs : starEach [a] X.env = [(false, eval a X.env)] := by rfl) : PID B X tg (.Call (.Name "range" p) [a] [] pos) (gRng1 fs) :=
  ⟨pi_imp (pi_range1 hg hm ha.run hs) fun s H R ⟨σ, F, Qd, Rl, q, k⟩ => ⟨σ, F, _, Rl, q, fun ds ⟨j, e, h1, h2, qd⟩ F1 H1 vs g1 d1 r1 => by
    subst e
    cases r1 with
    | cons r t =>
      cases r
      cases t
      exact ⟨j, rfl, h1, h2, k _ qd F1 H1 _ g1 d1 itOk_range⟩⟩⟩
theorem pid_rng2 {tg : Expr} {p : Pos} {fs : GA} (hg : Gl X "range") (hm : X.mg "range" = none) (ha : AD B X [a, b] fs) (hs : starEach [a, b] X.env = [(false, eval a X.env), (false, eval b X.env)] := by rfl) (hs2 : starEach [b] X.env = [(false, eval b X.env)] := by rfl) : PID B X tg (.Call (.Name "range" p) [a, b] [] pos) (gRng2 fs) :=
  ⟨pi_imp (pi_range2 hg hm ha.run hs hs2) fun s H R ⟨σ, F, Qd, Rl, q, k⟩ => ⟨σ, F, _, Rl, q, fun ds ⟨i, j, e, h1, qd⟩ F1 H1 vs g1 d1 r1 => by
    subst e
    cases r1 with
    | cons r t =>
      cases r
      cases t with
      | cons r t =>
        cases r
        cases t
        exact ⟨i, j, rfl, h1, k _ qd F1 H1 _ g1 d1 itOk_range⟩⟩⟩
/-- the target of a for: a name, a tuple of names -/
abbrev GG := D → List SV → (List SV → Prop) → Prop
structure GD (B : Bs) (X : Cx) (tg : Expr) (gt : GG) : Prop where
  run : ∃ t, PG X tg t ∧ ∀ d v σ s F H (Qd : List SV → Prop) (Q : L2.St → Hp → Prop), Rel B X.kn σ s F H → Rep X.kn F v d → gt d σ Qd → (∀ σ' s', Rel B X.kn σ' s' F H → Qd σ' → Q s' H) → t v s H Q
@[simp] def ggName (i : Nat) (d : D) (σ : List SV) (Q : List SV → Prop) : Prop := Q (σ.set i (.d d))
@[simp] def ggTup (is : List Nat) (d : D) (σ : List SV) (Q : List SV → Prop) : Prop := unT is.length d fun ds => Q (setAll is ds σ)
theorem gd_name {i : Nat} {x : Str} (h : PG X (.Name x pos) (gName i)) : GD B X (.Name x pos) (ggName i) := ⟨_, h, fun d v σ s F H Qd Q R r q k => k _ _ (R.set r) q⟩
theorem gd_tup {is : List Nat} {ts : List Expr} {kt : Nat} (hc : X.calm = true) (hn : NamesAt X ts is) (hl : (assignEach ts X.env).length = is.length := by rfl) (hst : (assignEach ts X.env).findIdx? (·.1) = none := by rfl) : GD B X (.Tuple ts kt pos) (ggTup is) :=
  ⟨_, pg_tup hc hn.run hl hst, fun d v σ s F H Qd Q R r ⟨ds, e, hl, q⟩ k => by
    subst e
    cases r with
    | tup h r => exact ⟨_, _, rfl, same_t R.ex h, by rw [r.length]; exact hl, by rw [r.length]; exact hl, k _ _ (R.sets r) q⟩⟩
def forG (gt : GG) (g : GS) : List D → Ed → List SV → Prop
  | [], E, σ => E.nx σ
  | d :: ds, E, σ => gt d σ fun σ' => g { E with nx := forG gt g ds E, ct := forG gt g ds E, bk := E.nx } σ'
@[simp] def gFor (fi : GA) (gt : GG) (g : GS) (E : Ed) (σ : List SV) : Prop := fi σ fun ds => forG gt g ds E σ
theorem sd_for {tg iter : Expr} {fi : GA} {gt : GG} (hp : PassesOwn (model X.prog X.w) X.A X.env X.xe) (hc : X.calm = true) (hi : PID B X tg iter fi) (hg : GD B X tg gt) (hb : SDs B X sts g) (hs : ∀ x, foldedSetIterable iter X.env x = pure x := by intro _; rfl) : SD B X (.For tg iter sts [] pos) (gFor fi gt g) := by
  obtain ⟨t, ht, hgt⟩ := hg.run
  refine ⟨ps_imp (ps_for hp hc hi.run ht hb.run hs) fun Dn s H ⟨σ, F, E, R, q, kk⟩ => ⟨σ, F, _, R, q, fun ds qd F1 H1 J g1 d1 ok => ?_⟩⟩
  have R1 := R.grow g1 d1
  refine ⟨fun i m s' H' => m = ds.length - i ∧ ∃ σ' F', Same F1 F' ∧ Rel B X.kn σ' s' F' H' ∧ forG gt g (ds.drop i) E σ', ⟨ds.length, rfl, σ, F1, Same.refl F1, R1, by simpa using qd⟩, ?_⟩
  rintro i m s' H' ⟨rfl, σ', F', e', R', q'⟩
  by_cases hlt : i < ds.length
  · obtain ⟨hgo, hy⟩ := ok.go F' H' i ds[i] e' R'.ex R'.deck (by simp [hlt])
    rw [List.drop_eq_getElem_cons hlt] at q'
    refine .inr ⟨hgo, fun s3 H3 => ∃ σ3 F3, Same F1 F3 ∧ Rel B X.kn σ3 s3 F3 H3 ∧ forG gt g (ds.drop (i + 1)) E σ3, fun s3 H3 z => ⟨ds.length - (i + 1), by omega, rfl, z⟩, fun x H2 hx => ?_⟩
    obtain ⟨F2, g2, d2, r2⟩ := hy x H2 hx
    have R2 := R'.grow g2 d2
    refine hgt ds[i] x σ' s' F2 H2 _ _ R2 r2 q' fun σ3 s3 R3 q3 => ⟨σ3, F2, _, R3, q3, ?_⟩
    have eF := e'.trans g2.ff
    exact ⟨fun σ4 s4 F4 H4 a r q4 => ⟨σ4, F4, eF.trans a, r, q4⟩, kk.rt, fun σ4 s4 F4 H4 a r q4 => kk.nx σ4 s4 F4 H4 (g1.ff.trans (eF.trans a)) r q4, fun σ4 s4 F4 H4 a r q4 => ⟨σ4, F4, eF.trans a, r, q4⟩⟩
  · rw [List.drop_eq_nil_of_le (by omega)] at q'
    exact .inl ⟨ok.stop F' H' i e' R'.ex (by omega), kk.nx σ' s' F' H' (g1.ff.trans e') R' q'⟩
end
end ND

/-! ND6: comprehensions, built-in functions -/
namespace ND
open PySem PySem.Spec L2
open PyProof.Rows (envOfC)

/-! ### lists by comprehension -/
@[simp] def wipeD (σ : List SV) : List Nat → List SV
  | [] => σ
  | v :: vs => (wipeD σ vs).set v .no
theorem Rel.wipe {B : Bs} {K : Kn} {σ : List SV} {s : L2.St} {F H : Hp} (R : Rel B K σ s F H) : ∀ vs : List Nat, Rel B K (wipeD σ vs) (L2.wipe s vs) F H
  | [] => R
  | v :: vs => (Rel.wipe R vs).drop
theorem set_set_ne {α : Type} {l : List α} {i j : Nat} {a b : α} (h : i ≠ j) : (l.set i a).set j b = (l.set j b).set i a := List.set_comm a b h
theorem wipe_set {s : L2.St} {i : Nat} {v : Option V} : ∀ {vs : List Nat}, i ∈ vs → L2.wipe (s.set i v) vs = L2.wipe s vs
  | w :: vs, h => by
    unfold L2.wipe
    by_cases e : i ∈ vs
    · rw [wipe_set e]
    · have e2 : i = w := by
        rcases List.mem_cons.mp h with h | h
        · exact h
        · exact absurd h e
      subst e2
      have key : ∀ (us : List Nat), i ∉ us → L2.wipe (s.set i v) us = (L2.wipe s us).set i v := by
        intro us
        induction us with
        | nil => intro _; rfl
        | cons u us ih =>
          intro hu
          unfold L2.wipe
          rw [ih (fun z => hu (List.mem_cons_of_mem _ z)), set_set_ne (fun z => hu (by rw [z]; exact List.mem_cons_self))]
      rw [key vs e, List.set_set]
theorem wipe_idem (s : L2.St) : ∀ vs : List Nat, L2.wipe (L2.wipe s vs) vs = L2.wipe s vs := by
  have key : ∀ (ws vs : List Nat), (∀ i ∈ ws, i ∈ vs) → L2.wipe (L2.wipe s ws) vs = L2.wipe s vs := by
    intro ws
    induction ws with
    | nil => intro vs _; rfl
    | cons w ws ih =>
      intro vs h
      show L2.wipe ((L2.wipe s ws).set w none) vs = _
      rw [wipe_set (h w List.mem_cons_self)]
      exact ih vs fun i hi => h i (List.mem_cons_of_mem _ hi)
  exact fun vs => key vs vs fun _ h => h
theorem wipe_sets {own : List Nat} : ∀ {is : List Nat} {vs : List V} {s : L2.St}, (∀ i ∈ is, i ∈ own) → L2.wipe (setAllV is vs s) own = L2.wipe s own
  | [], _, _, _ => rfl
  | _ :: _, [], _, _ => rfl
  | i :: is, v :: vs, s, h => by
    show L2.wipe (setAllV is vs (s.set i (some v))) own = _
    rw [wipe_sets fun j hj => h j (List.mem_cons_of_mem _ hj), wipe_set (h i List.mem_cons_self)]
/-- a comprehension's target -/
structure CTg (B : Bs) (K : Kn) (own : List Nat) (t : TG) (gt : GG) : Prop where
  run : ∀ d v σ s F H (Qd : List SV → Prop) (Q : L2.St → Hp → Prop), Rel B K σ s F H → Rep K F v d → gt d σ Qd → (∀ σ' s', Rel B K σ' s' F H → L2.wipe s' own = L2.wipe s own → Qd σ' → Q s' H) → t v s H Q
section
variable {B : Bs} {X : Cx} {K : Kn} {own : List Nat}
theorem ct_name {i : Nat} (h : i ∈ own) : CTg B K own (gName i) (ggName i) := ⟨fun d v σ s F H Qd Q R r q k => k _ _ (R.set r) (wipe_set h) q⟩
abbrev tgNames (K : PySem.W.Frag) (is : List Nat) : TG := L2.gTup K is.length fun vs σ H Q => vs.length = is.length ∧ Q (setAllV is vs σ) H
theorem ct_tup {is : List Nat} (h : ∀ i ∈ is, i ∈ own) : CTg B K own (tgNames K.K is) (ggTup is) := ⟨fun d v σ s F H Qd Q R r ⟨ds, e, hl, q⟩ k => by
  subst e
  cases r with
  | tup h' r => exact ⟨_, _, rfl, same_t R.ex h', by rw [r.length]; exact hl, by rw [r.length]; exact hl, k _ _ (R.sets r) (wipe_sets h) q⟩⟩
theorem pg_names {is : List Nat} {ts : List Expr} {kt : Nat} {pos : Pos} (hc : X.calm = true) (hn : NamesAt X ts is) (hl : (assignEach ts X.env).length = is.length := by rfl) (hst : (assignEach ts X.env).findIdx? (·.1) = none := by rfl) : PG X (.Tuple ts kt pos) (tgNames X.K is) := pg_tup hc hn.run hl hst
structure TDs (B : Bs) (X : Cx) (ifs : List Expr) (f : GT) : Prop where
  run : PTs X ifs (LT B X.kn f)
@[simp] def gYes (_ : List SV) (Q : Bool → Prop) : Prop := Q true
theorem tds_nil : TDs B X [] gYes := ⟨⟨fun pins s σ H Q I ⟨σ', F, Qd, R, q, k⟩ => pts_nil.run pins s σ H Q I (k _ q F H (Grow.refl R.ex) R.deck)⟩⟩
theorem tds_one {c : Expr} {ft : GT} (h : TD B X c ft) : TDs B X [c] ft := ⟨pts_one h.run⟩
def lcG (gt : GG) (ft : GT) (fe : GE) (own : List Nat) (σ : List SV) (Q : List D → Prop) : List D → List D → Prop
  | [], acc => Q acc
  | d :: ds, acc => gt d (wipeD σ own) fun σ2 => ft σ2 fun b => if b = true then fe σ2 fun y => acc.length < sizeLine ∧ lcG gt ft fe own σ Q ds (acc ++ [y]) else lcG gt ft fe own σ Q ds acc
@[simp] def gLc (fi : GA) (gt : GG) (ft : GT) (fe : GE) (own : List Nat) (σ : List SV) (Q : List D → Prop) : Prop := fi σ fun ds => lcG gt ft fe own σ Q ds []
theorem Grow.write {W : WT} {F H F' H' : Hp} {p : Addr} {o : HO} (g : Grow W F H F' H') (hp : H p = none) (fp : F' p = none) : Grow W F H F' (upd H' p o) :=
  ⟨g.ff, fun a u e => by
    rw [upd_ne fun z => by rw [z, fp] at e; cases e]
    exact g.fh a u e, fun a u e w nt => by
    rw [upd_ne fun z => by rw [z, hp] at e; cases e]
    exact g.hh a u e w nt, g.new, fun a e => upd_keep (g.keep a e)⟩
theorem DeckIn.write {W : WT} {F H F' H' : Hp} {p : Addr} {o : HO} (d0 : DeckIn W F H) (d : DeckIn W F' H') (hp : H p = none) (nx : ∀ φ, H' p ≠ some (.ext φ)) (nt : NT o := by intro _ z; cases z) : DeckIn W F' (upd H' p o) :=
  d.keep (fun _ _ => rfl) (fun a w => upd_ne fun z => (d0.w w).2 (by rw [z]; exact hp)) (fun a φ e => by rw [upd_ne (fun z => nx φ (by rw [← z]; exact e))]; exact e) d.nf (ot_upd nt)
theorem lc_run {fi : GA} {gt : GG} {ft : GT} {fe : GE} {t : TG} {own : List Nat} {s : L2.St} {H : Hp} {Q : VK} (ct : CTg B K own t gt) (h : LF B K (gLc fi gt ft fe own) s H Q) : tLc (LI B K fi) t (LT B K ft) (LE B K fe) own s H Q := by
  obtain ⟨σ, F, Qd, R, q, k⟩ := h
  refine ⟨σ, F, _, R, q, fun ds qds F1 H1 J g1 d1 okJ L hL => ?_⟩
  refine ⟨fun i m H' => m = ds.length - i ∧ ∃ F' acc vs, Grow B.W F1 H1 F' H' ∧ DeckIn B.W F' H' ∧ F' L = none ∧ H' L = some (.lst vs) ∧ Reps K F' vs acc ∧ lcG gt ft fe own σ Qd (ds.drop i) acc, ⟨ds.length, rfl, F1, [], [], Grow.laid g1.fh hL, d1.laid hL, g1.fh.free hL, upd_same, .nil, by simpa using qds⟩, ?_⟩
  rintro i m H' ⟨rfl, F', acc, vs, g', dk', fL, hv, rv, q'⟩
  by_cases hlt : i < ds.length
  · obtain ⟨hgo, hy⟩ := okJ.go F' H' i ds[i] g'.ff g'.fh dk' (by simp [hlt])
    rw [List.drop_eq_getElem_cons hlt] at q'
    refine .inr ⟨hgo, fun H3 => ∃ F3 acc3 vs3, Grow B.W F1 H1 F3 H3 ∧ DeckIn B.W F3 H3 ∧ F3 L = none ∧ H3 L = some (.lst vs3) ∧ Reps K F3 vs3 acc3 ∧ lcG gt ft fe own σ Qd (ds.drop (i + 1)) acc3, fun H3 z => ⟨ds.length - (i + 1), by omega, rfl, z⟩, fun x H2 hx => ?_⟩
    obtain ⟨F2, g2, d2, r2⟩ := hy x H2 hx
    have R2 := ((R.grow g1 d1).grow (g'.trans g2) d2).wipe own
    have nW : ¬ InW B.W L := fun w => (d1.w w).2 hL
    have key : ∀ {F3 H3 : Hp}, Grow B.W F' H' F3 H3 → F3 L = none ∧ H3 L = some (.lst vs) := fun {F3 H3} g3 => ⟨g3.new L fL (by rw [hv]; exact Option.some_ne_none _), g3.hh L _ hv nW (by intro _ z; cases z)⟩
    refine ct.run ds[i] x _ _ F2 H2 _ _ R2 r2 q' fun σ3 s3 R3 hw q3 => ⟨by rw [hw]; exact wipe_idem _ _, σ3, F2, _, R3, q3, fun b qb F3 H3 g3 d3 => ?_⟩
    cases b with
    | false =>
      have g23 := g2.trans g3
      exact ⟨F3, acc, vs, g'.trans g23, d3, (key g23).1, (key g23).2, rv.mono g23.ff, by simpa using qb⟩
    | true =>
      refine ⟨σ3, F3, _, R3.grow g3 d3, qb, fun y ⟨hz, qy⟩ F4 H4 v g4 d4 r4 => ?_⟩
      have g24 := (g2.trans g3).trans g4
      have rv4 := rv.mono g24.ff
      exact ⟨vs, (key g24).2, by rw [rv.length]; exact hz, F4, acc ++ [y], vs ++ [v], (g'.trans g24).write hL (key g24).1, d1.write d4 hL (fun φ z => by rw [(key g24).2] at z; cases z), (key g24).1, upd_same, rv4.append (.cons r4 .nil), qy⟩
  · rw [List.drop_eq_nil_of_le (by omega)] at q'
    exact .inl ⟨okJ.stop F' H' i g'.ff g'.fh (by omega), k acc q' F' H' L vs (g1.trans g') dk' (g1.back hL) fL hv rv⟩
theorem fd_lc {elt tg iter : Expr} {ifs : List Expr} {scope : Scope} {own : List (Str × Nat)} {pos : Pos} {fi : GA} {gt : GG} {ft : GT} {fe : GE} {t : TG} (hc : X.calm = true) (hN : X.N.Nodup) (hi : PID B X tg iter fi) (ok : BlkOk X.N X.env.scope scope own)
    (ct : CTg B X.kn (own.map (·.2)) t gt) (hg : ∀ (s : Shared) (H : Hp) (C : Addr) (cl : List (Str × Addr)) (fp : List Addr), PG (X.blk s H scope (compEnvC scope cl C X.env) fp) tg t)
    (ht : ∀ (s : Shared) (H : Hp) (C : Addr) (cl : List (Str × Addr)) (fp : List Addr), TDs B (X.blk s H scope (compEnvC scope cl C X.env) fp) ifs ft)
    (he : ∀ (s : Shared) (H : Hp) (C : Addr) (cl : List (Str × Addr)) (fp : List Addr), ED B (X.blk s H scope (compEnvC scope cl C X.env) fp) elt fe) (hs : ∀ x, foldedSetIterable iter X.env x = pure x := by intro _; rfl) :
    FD B X (.ListComp elt [⟨tg, iter, ifs, 0⟩] scope pos) (gLc fi gt ft fe (own.map (·.2))) :=
  ⟨pe_imp (pe_lc (te := LE B X.kn fe) (tt := LT B X.kn ft) hc hN hi.run ok hg (fun s H C cl fp => (ht s H C cl fp).run) (fun s H C cl fp => (he s H C cl fp).run) hs) fun s H Q h => lc_run ct h⟩
/-- y = [..], a list of one's own, or data -/
theorem sd_setLcO {i : Nat} {y : Str} {py : Pos} {elt tg iter : Expr} {ifs : List Expr} {scope : Scope} {own : List (Str × Nat)} {pos spos : Pos} {fi : GA} {gt : GG} {ft : GT} {fe : GE} {t : TG} (hc : X.calm = true) (hN : X.N.Nodup) (hy : X.N[i]? = some y) (hyl : X.env.scope.names.lookup y = some .local)
    (hsw : swapsWith (.ListComp elt [⟨tg, iter, ifs, 0⟩] scope pos) (some (.Name y py)) spos.line X.env = pure true) (hi : PID B X tg iter fi) (ok : BlkOk X.N X.env.scope scope own)
    (ct : CTg B X.kn (own.map (·.2)) t gt) (hg : ∀ (s : Shared) (H : Hp) (C : Addr) (cl : List (Str × Addr)) (fp : List Addr), PG (X.blk s H scope (compEnvC scope cl C X.env) fp) tg t)
    (ht : ∀ (s : Shared) (H : Hp) (C : Addr) (cl : List (Str × Addr)) (fp : List Addr), TDs B (X.blk s H scope (compEnvC scope cl C X.env) fp) ifs ft)
    (he : ∀ (s : Shared) (H : Hp) (C : Addr) (cl : List (Str × Addr)) (fp : List Addr), ED B (X.blk s H scope (compEnvC scope cl C X.env) fp) elt fe) (hs : ∀ x, foldedSetIterable iter X.env x = pure x := by intro _; rfl) :
    SD B X (.Assign [.Name y py] (.ListComp elt [⟨tg, iter, ifs, 0⟩] scope pos) spos) (gSetL i (gLc fi gt ft fe (own.map (·.2)))) :=
  ⟨ps_imp (ps_setLc (te := LE B X.kn fe) (tt := LT B X.kn ft) hc hN hy hyl hsw hi.run ok hg (fun s H C cl fp => (ht s H C cl fp).run) (fun s H C cl fp => (he s H C cl fp).run) hs) fun Dn s H ⟨σ, F, E, R, q, k⟩ =>
    lc_run ct ⟨σ, F, _, R, q, fun ds qd F' H' p vs g dk hp fp ep r => k.nx _ _ F' H' g.ff (R.setNew (x := .ol ds) g dk hp fp ⟨rfl, vs, ep, r⟩) qd⟩⟩
theorem sd_setLc {i : Nat} {y : Str} {py : Pos} {elt tg iter : Expr} {ifs : List Expr} {scope : Scope} {own : List (Str × Nat)} {pos spos : Pos} {fi : GA} {gt : GG} {ft : GT} {fe : GE} {t : TG} (hc : X.calm = true) (hN : X.N.Nodup) (hy : X.N[i]? = some y) (hyl : X.env.scope.names.lookup y = some .local)
    (hsw : swapsWith (.ListComp elt [⟨tg, iter, ifs, 0⟩] scope pos) (some (.Name y py)) spos.line X.env = pure true) (hi : PID B X tg iter fi) (ok : BlkOk X.N X.env.scope scope own)
    (ct : CTg B X.kn (own.map (·.2)) t gt) (hg : ∀ (s : Shared) (H : Hp) (C : Addr) (cl : List (Str × Addr)) (fp : List Addr), PG (X.blk s H scope (compEnvC scope cl C X.env) fp) tg t)
    (ht : ∀ (s : Shared) (H : Hp) (C : Addr) (cl : List (Str × Addr)) (fp : List Addr), TDs B (X.blk s H scope (compEnvC scope cl C X.env) fp) ifs ft)
    (he : ∀ (s : Shared) (H : Hp) (C : Addr) (cl : List (Str × Addr)) (fp : List Addr), ED B (X.blk s H scope (compEnvC scope cl C X.env) fp) elt fe) (hs : ∀ x, foldedSetIterable iter X.env x = pure x := by intro _; rfl) :
    SD B X (.Assign [.Name y py] (.ListComp elt [⟨tg, iter, ifs, 0⟩] scope pos) spos) (gSet i (gFrz (gLc fi gt ft fe (own.map (·.2))))) :=
  ⟨ps_imp (ps_setLc (te := LE B X.kn fe) (tt := LT B X.kn ft) hc hN hy hyl hsw hi.run ok hg (fun s H C cl fp => (ht s H C cl fp).run) (fun s H C cl fp => (he s H C cl fp).run) hs) fun Dn s H ⟨σ, F, E, R, q, k⟩ =>
    lc_run ct ⟨σ, F, _, R, q, fun ds qd F' H' p vs g dk hp fp ep r =>
      k.nx _ _ (upd F' p (.lst vs)) H' (g.freeze hp fp ep).ff ((R.grow (g.freeze hp fp ep) (R.deck.freeze dk hp)).set (.lst upd_same (r.mono (same_new fp)))) qd⟩⟩
end
end ND

/-! ND7: built-in functions by data -/
namespace ND
open PySem PySem.Spec L2
open PyProof.Rows (envOfC)

/-- a built-in function of data -/
def LCa (B : Bs) (K : Kn) (g : List D → (D → Prop) → Prop) : List V → Hp → VK → Prop := fun vs H Q => ∃ F ds Qd, Same F H ∧ DeckIn B.W F H ∧ RepBs B.W K F H vs ds ∧ g ds Qd ∧ Fin B K F H Qd Q
@[simp] def gBlt (g : List D → (D → Prop) → Prop) (fs : GA) (σ : List SV) (Q : D → Prop) : Prop := fs σ fun ds => g ds Q
section
variable {B : Bs} {X : Cx} {e : Expr} {es : List Expr} {x : Str} {p pos : Pos} {fs : GA} {id T : String} {g : List D → (D → Prop) → Prop}
theorem callR_by {f : Value} {r' : List V → Hp → VK → Prop} (w : ∀ vs H Q, r' vs H Q → ∃ r, CallR X f r ∧ r vs H Q) : CallR X f r' := fun pins s σ H xs us Q I rx q => by
  obtain ⟨r, h, q'⟩ := w _ _ _ q
  exact h pins s σ H xs us Q I rx q'
theorem tcb_of {s : L2.St} {H : Hp} {Q : VK} (h : LE B X.kn (gBlt g fs) s H Q) : tCB (LCa B X.kn g) (LAB B X.kn fs) s H Q := by
  obtain ⟨σ, F, Qd, R, q, k⟩ := h
  exact ⟨σ, F, _, R, q, fun ds qd F1 H1 vs g1 d1 r1 => ⟨F1, ds, Qd, g1.fh, d1, r1, qd, k.more g1⟩⟩
theorem ed_callB (hc : CallR X (.builtin id) (LCa B X.kn g)) (hg : Gl X x) (hm : X.mg x = none) (hv : bootBuiltins x = some (.builtin id)) (ha : ABD B X (e :: es) fs) (hn : x ≠ "__name__" := by decide) (hdb : (x == ("__debug__" : Str)) = false := by decide)
    (he : starEach (e :: es) X.env = (false, eval e X.env) :: starEach es X.env := by rfl) (hpl : (backTo pos (starEach es X.env)).any (·.1) = false := by rfl) : ED B X (.Call (.Name x p) (e :: es) [] pos) (gBlt g fs) :=
  ⟨pe_imp (pe_callB hc hg hm hv ha.run hn hdb he hpl) fun s H Q h => tcb_of h⟩
theorem ed_callTy (hc : CallR X (.type T) (LCa B X.kn g)) (hg : Gl X x) (hm : X.mg x = none) (hv : bootBuiltins x = some (.type T)) (ha : ABD B X (e :: es) fs) (hn : x ≠ "__name__" := by decide) (hdb : (x == ("__debug__" : Str)) = false := by decide)
    (he : starEach (e :: es) X.env = (false, eval e X.env) :: starEach es X.env := by rfl) (hpl : (backTo pos (starEach es X.env)).any (·.1) = false := by rfl) : ED B X (.Call (.Name x p) (e :: es) [] pos) (gBlt g fs) :=
  ⟨pe_imp (pe_callTy hc hg hm hv ha.run hn hdb he hpl) fun s H Q h => tcb_of h⟩
/-- a module's name for a built-in function -/
theorem ed_callFun (hc : CallR X (.builtin id) (LCa B X.kn g)) (hg : Gl X x) (hm : X.mg x = some (.builtin id)) (ha : ABD B X (e :: es) fs) (hdb : (x == ("__debug__" : Str)) = false := by decide)
    (he : starEach (e :: es) X.env = (false, eval e X.env) :: starEach es X.env := by rfl) (hpl : (backTo pos (starEach es X.env)).any (·.1) = false := by rfl) : ED B X (.Call (.Name x p) (e :: es) [] pos) (gBlt g fs) :=
  ⟨pe_imp (pe_callBfun hc hg hm ha.run hdb he hpl) fun s H Q h => tcb_of h⟩
/-- a name of a built-in type -/
theorem ed_ty (hg : Gl X x) (hm : X.mg x = none) (hv : bootBuiltins x = some (.type T)) (hn : x ≠ "__name__" := by decide) (hdb : (x == ("__debug__" : Str)) = false := by decide) : ED B X (.Name x pos) (gC (.opq (.ty T))) :=
  ed_c (v := .ty T) (pe_bltn hg hm hv rfl hn hdb) fun _ => .opq _

theorem rb1 {W : WT} {K : Kn} {F H : Hp} {vs : List V} {d : D} (h : RepBs W K F H vs [d]) : ∃ v, vs = [v] ∧ RepB W K F H v d := by
  cases h with
  | cons h t =>
    cases t
    exact ⟨_, rfl, h⟩
theorem rb2 {W : WT} {K : Kn} {F H : Hp} {vs : List V} {d d' : D} (h : RepBs W K F H vs [d, d']) : ∃ v u, vs = [v, u] ∧ RepB W K F H v d ∧ RepB W K F H u d' := by
  cases h with
  | cons h t =>
    obtain ⟨u, rfl, h2⟩ := rb1 t
    exact ⟨_, _, rfl, h, h2⟩
/-! the answers -/
def lenD : List D → (D → Prop) → Prop
  | [.lst xs], Q => Q (.int xs.length)
  | [.tup xs], Q => Q (.int xs.length)
  | [.str x], Q => x.length ≤ sizeLine ∧ Q (.int x.length)
  | [.dic ks], Q => Q (.int ks.length)
  | _, _ => False
theorem repKs_len {K : Kn} {F : Hp} : ∀ {v : List (Key × V)} {d : List (Key × D)}, RepKs K F v d → v.length = d.length
  | _, _, .nil => rfl
  | _, _, .cons _ t => by rw [List.length_cons, List.length_cons, repKs_len t]
theorem c_len : CallR X (.builtin "len") (LCa B X.kn lenD) := callR_by fun vs H Q ⟨F, ds, Qd, e, dk, r, q, k⟩ => by
  unfold lenD at q
  split at q
  · obtain ⟨v, rfl, r1⟩ := rb1 r
    obtain ⟨a, us, rfl, h1, h2⟩ := r1.lst e
    exact ⟨_, call_len_seq, a, us, rfl, .inl (SqL.of h1), by rw [h2.length]; exact k.here e dk q (.int _)⟩
  · obtain ⟨v, rfl, r1⟩ := rb1 r
    obtain ⟨a, us, rfl, _, h1, h2⟩ := r1.tup e
    exact ⟨_, call_len_seq, a, us, rfl, .inr h1, by rw [h2.length]; exact k.here e dk q (.int _)⟩
  · obtain ⟨v, rfl, r1⟩ := rb1 r
    exact ⟨_, call_len_str, _, by rw [r1.str], q.1, k.here e dk q.2 (.int _)⟩
  · obtain ⟨v, rfl, r1⟩ := rb1 r
    obtain ⟨a, us, rfl, h1, h2⟩ := r1.dic e
    exact ⟨_, call_lenD, a, us, rfl, h1, by rw [repKs_len h2]; exact k.here e dk q (.int _)⟩
  · exact q.elim
def intD : List D → (D → Prop) → Prop
  | [.int i], Q => Q (.int i)
  | [.bl b], Q => Q (.int (if b = true then 1 else 0))
  | [.str x], Q => ∃ n, intText? x = some n ∧ x.length ≤ 640 ∧ Q (.int n)
  | _, _ => False
theorem c_int : CallR X (.type "int") (LCa B X.kn intD) := callR_by fun vs H Q ⟨F, ds, Qd, e, dk, r, q, k⟩ => by
  unfold intD at q
  split at q
  · obtain ⟨v, rfl, r1⟩ := rb1 r
    exact ⟨_, call_int1, .inl ⟨_, by rw [r1.int], k.here e dk q (.int _)⟩⟩
  · obtain ⟨v, rfl, r1⟩ := rb1 r
    exact ⟨_, call_int1, .inr ⟨_, by rw [r1.bl], k.here e dk q (.int _)⟩⟩
  · obtain ⟨v, rfl, r1⟩ := rb1 r
    obtain ⟨n, h1, h2, h3⟩ := q
    exact ⟨_, call_int_str, _, n, by rw [r1.str], h1, h2, k.here e dk h3 (.int _)⟩
  · exact q.elim
def boolD : List D → (D → Prop) → Prop
  | [.int i], Q => Q (.bl (i != 0))
  | [.bl b], Q => Q (.bl b)
  | _, _ => False
theorem c_bool : CallR X (.type "bool") (LCa B X.kn boolD) := callR_by fun vs H Q ⟨F, ds, Qd, e, dk, r, q, k⟩ => by
  unfold boolD at q
  split at q
  · obtain ⟨v, rfl, r1⟩ := rb1 r
    exact ⟨_, call_bool1, .inl ⟨_, by rw [r1.int], k.here e dk q (.bl _)⟩⟩
  · obtain ⟨v, rfl, r1⟩ := rb1 r
    exact ⟨_, call_bool1, .inr ⟨_, by rw [r1.bl], k.here e dk q (.bl _)⟩⟩
  · exact q.elim
def absD : List D → (D → Prop) → Prop
  | [.int i], Q => Q (.int (if i < 0 then -i else i))
  | _, _ => False
theorem c_abs : CallR X (.builtin "abs") (LCa B X.kn absD) := callR_by fun vs H Q ⟨F, ds, Qd, e, dk, r, q, k⟩ => by
  unfold absD at q
  split at q
  · obtain ⟨v, rfl, r1⟩ := rb1 r
    exact ⟨_, call_abs, _, by rw [r1.int], k.here e dk q (.int _)⟩
  · exact q.elim
def max2D : List D → (D → Prop) → Prop
  | [.int i, .int j], Q => Q (.int (if j > i then j else i))
  | _, _ => False
theorem c_max2 (hc : X.calm = true) : CallR X (.builtin "max") (LCa B X.kn max2D) := callR_by fun vs H Q ⟨F, ds, Qd, e, dk, r, q, k⟩ => by
  unfold max2D at q
  split at q
  · obtain ⟨v, u, rfl, r1, r2⟩ := rb2 r
    exact ⟨_, call_max2 hc, _, _, by rw [r1.int, r2.int], k.here e dk q (.int _)⟩
  · exact q.elim
def min2D : List D → (D → Prop) → Prop
  | [.int i, .int j], Q => Q (.int (if j < i then j else i))
  | _, _ => False
theorem c_min2 (hc : X.calm = true) : CallR X (.builtin "min") (LCa B X.kn min2D) := callR_by fun vs H Q ⟨F, ds, Qd, e, dk, r, q, k⟩ => by
  unfold min2D at q
  split at q
  · obtain ⟨v, u, rfl, r1, r2⟩ := rb2 r
    exact ⟨_, call_min2 hc, _, _, by rw [r1.int, r2.int], k.here e dk q (.int _)⟩
  · exact q.elim
def gcdD : List D → (D → Prop) → Prop
  | [.int i, .int j], Q => Q (.int ((Nat.gcd i.natAbs j.natAbs : Nat) : Int))
  | _, _ => False
theorem c_gcd : CallR X (.builtin "math.gcd") (LCa B X.kn gcdD) := callR_by fun vs H Q ⟨F, ds, Qd, e, dk, r, q, k⟩ => by
  unfold gcdD at q
  split at q
  · obtain ⟨v, u, rfl, r1, r2⟩ := rb2 r
    exact ⟨_, cr_gcd, _, _, by rw [r1.int, r2.int], k.here e dk q (.int _)⟩
  · exact q.elim
theorem isqrt_wide : CallR X (.builtin "math.isqrt") (fun vs H Q => ∃ a : Int, vs = [.int a] ∧ 0 ≤ a ∧ a.toNat.log2 < 13000 ∧ Q (.int ((Float64.isqrt a.toNat : Nat) : Int)) H) := by
  intro pins s σ H vs us Q I r h
  obtain ⟨a, rfl, h0, h1, q⟩ := h
  obtain ⟨u, rfl, t, rfl⟩ := vals1 r
  have h2 : a.toNat.log2 / 30 < 434 := Nat.div_lt_of_lt_mul (by omega)
  exact call_function_meets PySem.W.MGF.kind_isqrt PySem.W.MGF.plain_isqrt PySem.W.MGF.entry_isqrt (PySem.W.MGF.args_isqrt _) (PySem.W.mg_run_isqrt a t (by omega) (by omega) (by omega)).meets ⟨.int _, H, I.tok _, ⟨_, rfl⟩, q⟩
def isqrtD : List D → (D → Prop) → Prop
  | [.int i], Q => 0 ≤ i ∧ i.toNat.log2 < 13000 ∧ Q (.int ((Float64.isqrt i.toNat : Nat) : Int))
  | _, _ => False
theorem c_isqrt : CallR X (.builtin "math.isqrt") (LCa B X.kn isqrtD) := callR_by fun vs H Q ⟨F, ds, Qd, e, dk, r, q, k⟩ => by
  unfold isqrtD at q
  split at q
  · obtain ⟨v, rfl, r1⟩ := rb1 r
    exact ⟨_, isqrt_wide, _, by rw [r1.int], q.1, q.2.1, k.here e dk q.2.2 (.int _)⟩
  · exact q.elim

/-! isinstance with a built-in type -/
def tyD : D → Option String
  | .non => some "NoneType" | .bl _ => some "bool" | .int _ => some "int" | .str _ => some "str" | .tup _ => some "tuple" | .lst _ => some "list" | .dic _ => some "dict" | _ => none
def isTb (t T : String) : Bool := t == T || (t == "bool" && T == "int")
def knownT (T : String) : Bool := T == "int" || T == "bool" || T == "str" || T == "tuple" || T == "list" || T == "dict"
def isiB (T : String) (x : D) : Bool := match tyD x with | some t => isTb t T | none => false
def isiD : List D → (D → Prop) → Prop
  | [x, .opq (.ty T)], Q => knownT T = true ∧ (tyD x).isSome = true ∧ Q (.bl (isiB T x))
  | _, _ => False
theorem kitB_all : ∀ t ∈ ["NoneType", "bool", "int", "str", "tuple", "list", "dict"], ∀ T ∈ ["int", "bool", "str", "tuple", "list", "dict"], kitB t T = some (isTb t T) := by decide +kernel
theorem tyD_mem {x : D} {t : String} (h : tyD x = some t) : t ∈ ["NoneType", "bool", "int", "str", "tuple", "list", "dict"] := by
  cases x <;> simp only [tyD, Option.some.injEq, reduceCtorEq] at h <;> subst h <;> simp
theorem RepB.tyx {W : WT} {K : Kn} {F H : Hp} {v : V} {x : D} {t : String} (h : RepB W K F H v x) (e : Same F H) (ht : tyD x = some t) : TyX K.K H v (.type t) := by
  cases x <;> simp only [tyD, Option.some.injEq, reduceCtorEq] at ht <;> subst ht
  · rw [h.non]; exact .base .non
  · rw [h.bl]; exact .base (.bl _)
  · rw [h.int]; exact .base (.int _)
  · rw [h.str]; exact .base (.str _)
  · obtain ⟨a, us, rfl, _, h1, h2⟩ := h.tup e
    rcases h1 with (h1 | ⟨o, h1⟩) | ⟨o, its, n, h1, h2, _⟩
    · exact .base (.tup h1)
    · exact .fTuple h1
    · exact .kTuple h1 h2
  · obtain ⟨a, us, rfl, h1, h2⟩ := h.lst e
    exact .base (.lst h1)
  · obtain ⟨a, us, rfl, h1, h2⟩ := h.dic e
    exact .base (.dK h1)
theorem c_isi : CallR X (.builtin "isinstance") (LCa B X.kn isiD) := callR_by fun vs H Q ⟨F, ds, Qd, e, dk, r, q, k⟩ => by
  unfold isiD at q
  split at q
  · rename_i x T
    obtain ⟨v, u, rfl, r1, r2⟩ := rb2 r
    obtain ⟨h1, h2, h3⟩ := q
    obtain ⟨t, ht⟩ := Option.isSome_iff_exists.mp h2
    have hu := r2.opq
    subst hu
    refine ⟨_, call_isi, v, .ty T, .type t, .type T, isTb t T, rfl, .ty T, r1.tyx e ht, kit_ty (kitB_all t (tyD_mem ht) T ?_), k.here e dk ?_ (.bl _)⟩
    · simp only [knownT, Bool.or_eq_true, beq_iff_eq] at h1
      rcases h1 with ((((h | h) | h) | h) | h) | h <;> subst h <;> simp
    · have : isiB T x = isTb t T := by unfold isiB; rw [ht]
      rw [← this]
      exact h3
  · exact q.elim

/-! repr of plain data -/
def reprD : List D → (D → Prop) → Prop
  | [x], Q => pl 64 x = true ∧ (toPy x).showable = true ∧ (toPy x).shown.length ≤ sizeLine ∧ Q (.str (toPy x).shown)
  | _, _ => False
theorem c_repr (hG : X.A.guards = some []) (hu : X.A.units + 65 < cLine) : CallR X (.builtin "repr") (LCa B X.kn reprD) := fun pins s σ H vs us Q I rx ⟨F, ds, Qd, e, dk, r, q, k⟩ => by
  unfold reprD at q
  split at q
  · rename_i x
    obtain ⟨v, rfl, r1⟩ := rb1 r
    obtain ⟨h1, h2, h3, h4⟩ := q
    obtain ⟨u, rfl, ru⟩ := vals1 rx
    have fin : Q (.str (toPy x).shown) H := k.here e dk h4 (.str _)
    have sh := pl_shape 64 x h1
    have refs : ∀ a, v = .ref a → wpAny (model X.prog X.w) X.A (call (.builtin "repr") [u]) (EP X pins σ Q) X.xe s := fun a hv => by
      subst hv
      cases ru
      obtain ⟨as, rd⟩ := Dp.reads I _ _ _ (r1.dp e h1) rfl
      refine PySem.repr_of_reads' rd h2 (PyData.noDict_hsm (PyData.hasDict_of_canLay _ sh.1)) hG (by omega) (fun _ _ z => z) (fun h' u tk hk => ?_) h3
      exact ⟨.str _, H, I.kept (t' := tk) hk, ⟨_, rfl⟩, fin⟩
    cases x with
    | non =>
      have := r1.non
      subst this
      cases ru
      exact PySem.P.repr_of_none ⟨.str _, H, I.tok _, ⟨_, rfl⟩, by simpa [toPy, PyData.shown] using fin⟩
    | bl b =>
      have := r1.bl
      subst this
      cases ru
      exact PySem.P.repr_of_bool ⟨.str _, H, I.tok _, ⟨_, rfl⟩, by simpa [toPy, PyData.shown] using fin⟩
    | int i =>
      have := r1.int
      subst this
      obtain ⟨t, rfl⟩ := ru
      exact PySem.P.repr_of_int (by simpa [toPy, PyData.showable] using h2) ⟨.str _, H, I.tok _, ⟨_, rfl⟩, by simpa [toPy, PyData.shown] using fin⟩
    | str i =>
      have := r1.str
      subst this
      obtain ⟨t, rfl⟩ := ru
      exact PySem.P.repr_of_str ⟨.str _, H, I.tok _, ⟨_, rfl⟩, by simpa [toPy, PyData.shown] using fin⟩ (by simpa [toPy, PyData.shown] using h3)
    | tup xs =>
      obtain ⟨a, us, hv, _⟩ := r1.tup e
      exact refs a hv
    | lst xs =>
      obtain ⟨a, us, hv, _⟩ := r1.lst e
      exact refs a hv
    | dic _ => simp [pl] at h1
    | obj _ _ => simp [pl] at h1
    | opq _ => simp [pl] at h1
  · exact q.elim

/-! text * int -/
def repS : D → D → (D → Prop) → Prop
  | .str x, .int k, Q => 1 ≤ k ∧ x.length * k.toNat ≤ sizeLine ∧ x.length ≠ 0 ∧ Q (.str (Txt.mul x k))
  | _, _, _ => False
theorem o_repS : OpR X (binaryOp .Mult) (LO2 B X.kn repS) := fun pins s σ H x y v u Q I rx ry ⟨F, a, b, Qd, e, dk, r1, r2, q, k⟩ => by
  unfold repS at q
  split at q
  · rename_i z n
    obtain ⟨h1, h2, h0, h3⟩ := q
    have e1 := r1.str
    have e2 := r2.int
    subst e1 e2
    obtain ⟨t, rfl⟩ := rx
    obtain ⟨t', rfl⟩ := ry
    have hn : n.toNat ≤ z.length * n.toNat := Nat.le_mul_of_pos_left _ (by omega)
    have hs : (sizeLine : Nat) < 2 ^ 62 := by decide
    have hb : (z.length : Int) ≤ (2 ^ 63 - 1) / n := by
      rw [Int.le_ediv_iff_mul_le (by omega)]
      have e3 : (z.length : Int) * n = ((z.length * n.toNat : Nat) : Int) := by
        rw [Int.natCast_mul, Int.toNat_of_nonneg (by omega)]
      rw [e3]
      have : z.length * n.toNat < 2 ^ 62 := by omega
      have h5 : ((z.length * n.toNat : Nat) : Int) < ((2 ^ 62 : Nat) : Int) := Int.ofNat_lt.mpr this
      have h6 : ((2 ^ 62 : Nat) : Int) ≤ 2 ^ 63 - 1 := by decide
      omega
    refine PySem.SB.mul ⟨?_, fun _ _ => by omega, fun _ _ => ?_⟩ fun t' tk => ⟨.str _, H, I.tok _, ⟨_, rfl⟩, k.here e dk h3 (.str _)⟩
    · have hlt : n.toNat < 2 ^ 62 := by omega
      simp only [Bool.or_eq_false_iff, decide_eq_false_iff_not]
      have h7 : (2 : Int) ^ 63 = 9223372036854775808 := by decide
      have h8 : (2 : Nat) ^ 62 = 4611686018427387904 := by decide
      omega
    · unfold PySem.Builtin.Str.tooLong
      exact decide_eq_false (by omega)
  · exact q.elim
end
end ND

/-! ND8: defs by data -/
namespace ND
open PySem PySem.Spec L2
open PyProof.Rows (envOfC)

def startD (n : Nat) (ds : List D) : List SV := ds.map SV.d ++ List.replicate (n - ds.length) .no
theorem rel_start {W : WT} {K : Kn} {F H : Hp} {N : List Str} {vs : List V} {ds : List D} (e : Same F H) (dk : DeckIn W F H) (r : Reps K F vs ds) : Rel ⟨W, F, H⟩ K (startD N.length ds) (L2.start N vs) F H := by
  refine ⟨Grow.refl e, dk, dk, ?_, fun _ => none, ⟨fun i j a z => (nomatch z), fun i a z => (nomatch z)⟩, fun i x v e1 e2 => ?_⟩
  · unfold startD L2.start
    simp [r.length]
  · unfold startD at e1
    unfold L2.start at e2
    by_cases hi : i < ds.length
    · rw [List.getElem?_append_left (by simpa using hi)] at e1
      rw [List.getElem?_append_left (by simpa [r.length] using hi)] at e2
      rw [List.getElem?_map] at e1 e2
      cases ed : ds[i]? with
      | none =>
        rw [ed] at e1
        cases e1
      | some d =>
        rw [ed] at e1
        obtain ⟨u, h1, h2⟩ := r.get ed
        rw [h1] at e2
        cases e1
        cases e2
        exact h2
    · rw [List.getElem?_append_right (by simpa using hi)] at e1
      rw [List.getElem?_append_right (by simpa [r.length] using hi)] at e2
      have h1 := List.eq_of_mem_replicate (List.mem_of_getElem? e1)
      have h2 := List.eq_of_mem_replicate (List.mem_of_getElem? e2)
      subst h1 h2
      exact True.intro
/-- behind a def's body -/
@[simp] def endsD (Q : D → Prop) : Ed := { nx := fun _ => Q .non, rt := Q, bk := fun _ => False, ct := fun _ => False }
section
variable {P : Program} {w : World} {K : PySem.W.Frag} {mg : Str → Option Value} {base : Heap} {x qual : Str} {st : Stmt} {f : Addr} {fd : FuncData} {N ps : List Str} {k : Nat} {sp : DSp} {g : WD → (Er → Prop) → GS} {T : List (Addr × Str)}
abbrev cxD (P : Program) (w : World) (K : PySem.W.Frag) (mg : Str → Option Value) (base : Heap) (N : List Str) (qual : Str) (st : Stmt) (f : Addr) (cdv : Value) (A : Around) (outer : List Env) (s : Shared) (H : Hp) (E : XK) : Cx :=
  cxOf (L2.CX P w) P w K mg base N qual (defScope st) f cdv A outer s H E
theorem body_run {cdv : Value} {A : Around} {outer : List Env} {s : Shared} {H : Hp} {E : XK} {W : WD} {F : Hp} {ds : List D} {vs : List V} {Qd : D → Prop} {Q : VK} {R : Er → Prop} (hb : SDs ⟨⟨W, T⟩, F, H⟩ (cxD P w K mg base N qual st f cdv A outer s H E) (defBody st) (g W R))
    (e : Same F H) (dk : DeckIn ⟨W, T⟩ F H) (r : Reps ⟨K, mg⟩ F vs ds) (q : g W R (endsD Qd) (startD N.length ds)) (kf : Fin ⟨⟨W, T⟩, F, H⟩ ⟨K, mg⟩ F H Qd Q) :
    ∃ t, PSs (cxD P w K mg base N qual st f cdv A outer s H E) (defBody st) t ∧ t { nx := fun _ H' => Q .non H', rt := Q } (L2.start N vs) H :=
  ⟨_, hb.run, startD N.length ds, F, endsD Qd, rel_start e dk r, q, ⟨fun σ s F' H' _ R' qn => kf .non qn F' H' .non R'.base R'.deck .non, fun d v F' H' g' dk' r' qd => kf d qd F' H' v g' dk' r', fun _ _ _ _ _ _ z => z.elim, fun _ _ _ _ _ _ z => z.elim⟩⟩
theorem okD (F : Fun K x qual st f fd) (S : FnScope N ps (defScope st)) (hlen : ∀ W ds Q R, sp W ds Q R → ds.length = ps.length)
    (body : ∀ (cdv : Value) (A : Around) (outer : List Env) (s : Shared) (H : Hp) (E : XK) (W : WD) (F : Hp) (R : Er → Prop), Room k (A.deeper (envOfC qual (defScope st) s.heap.objs.size f cdv)) → FinE ⟨W, T⟩ ⟨K, mg⟩ F H R E →
      PassesOwn (model P w) (cxD P w K mg base N qual st f cdv A outer s H E).A (cxD P w K mg base N qual st f cdv A outer s H E).env (cxD P w K mg base N qual st f cdv A outer s H E).xe →
      Passes (L2.CX P w) (cxD P w K mg base N qual st f cdv A outer s H E) E → SDs ⟨⟨W, T⟩, F, H⟩ (cxD P w K mg base N qual st f cdv A outer s H E) (defBody st) (g W R))
    (law : ∀ W ds Q R, sp W ds Q R → g W R (endsD Q) (startD N.length ds)) : FnOk P w K mg base (L2.CX P w) (k + 1) f fd ps (liftSp ⟨K, mg⟩ T sp) := by
  refine F.okX S (fun vs H Q E ⟨W, F, ds, Qd, Rd, h1, h2, h3, h4, _⟩ => h3.length.trans (hlen _ _ _ _ h4)) fun cdv A outer s H vs Q E hr ⟨W, F, ds, Qd, Rd, h1, h2, h3, h4, h5, h6⟩ => ?_
  exact body_run (body cdv A outer s H E W F Rd hr h6 (passes_of rfl) (passes_call (takes_of rfl rfl rfl rfl) fun _ _ _ _ z => z)) h1 h2 h3 (law W ds Qd Rd h4) h5
theorem okG (F : Fun K x qual st f fd) (S : FnScope N ps (defScope st)) (hlen : ∀ W ds Q R, sp W ds Q R → ds.length = ps.length)
    (body : ∀ (cdv : Value) (A : Around) (outer : List Env) (s : Shared) (H : Hp) (E : XK) (W : WD) (F : Hp) (R : Er → Prop), (A.deeper (envOfC qual (defScope st) s.heap.objs.size f cdv)).guards = some [] → Room k (A.deeper (envOfC qual (defScope st) s.heap.objs.size f cdv)) → FinE ⟨W, T⟩ ⟨K, mg⟩ F H R E →
      PassesOwn (model P w) (cxD P w K mg base N qual st f cdv A outer s H E).A (cxD P w K mg base N qual st f cdv A outer s H E).env (cxD P w K mg base N qual st f cdv A outer s H E).xe →
      Passes (L2.CX P w) (cxD P w K mg base N qual st f cdv A outer s H E) E → SDs ⟨⟨W, T⟩, F, H⟩ (cxD P w K mg base N qual st f cdv A outer s H E) (defBody st) (g W R))
    (law : ∀ W ds Q R, sp W ds Q R → g W R (endsD Q) (startD N.length ds)) : FnG P w K mg base (k + 1) f fd ps (liftSp ⟨K, mg⟩ T sp) := by
  obtain ⟨oc, od, kV, doc, pm, an, cdv, ct, osl, rfl, lk, hcd⟩ := F.ex
  refine fn_ofG lk hcd S (fun vs H Q E ⟨W, F, ds, Qd, Rd, h1, h2, h3, h4, _⟩ => h3.length.trans (hlen _ _ _ _ h4)) fun A outer s H vs Q E hG hr ⟨W, F, ds, Qd, Rd, h1, h2, h3, h4, h5, h6⟩ => ?_
  exact body_run (body cdv A outer s H E W F Rd hG hr h6 (passes_of rfl) (passes_call (takes_of rfl rfl rfl rfl) fun _ _ _ _ z => z)) h1 h2 h3 (law W ds Qd Rd h4) h5
end

/-- the def of the name x keeps sp, at the level k -/
structure OkD (P : Program) (w : World) (K : PySem.W.Frag) (mg : Str → Option Value) (base : Heap) (T : List (Addr × Str)) (x : Str) (st : Stmt) (k : Nat) (ps : List Str) (sp : DSp) : Prop where
  ex : ∃ f fd, mg x = some (.ref f) ∧ Fun K x x st f fd ∧ FnOk P w K mg base (L2.CX P w) k f fd ps (liftSp ⟨K, mg⟩ T sp)
structure OkG (P : Program) (w : World) (K : PySem.W.Frag) (mg : Str → Option Value) (base : Heap) (T : List (Addr × Str)) (x : Str) (st : Stmt) (k : Nat) (ps : List Str) (sp : DSp) : Prop where
  ex : ∃ f fd, mg x = some (.ref f) ∧ Fun K x x st f fd ∧ FnG P w K mg base k f fd ps (liftSp ⟨K, mg⟩ T sp)
/-- how the def st binds by position, by keyword -/
abbrev BindsP (x : Str) (st : Stmt) (ps : List Str) : Prop := ∀ (kV doc pm : Value) (an : Option Addr) (cdv ct : Value) (us : List Value), us.length = ps.length → bindArgs (PySem.W.fnOf x x (defArgs st) (defBody st) (defScope st) .none kV doc pm an cdv ct) ⟨us, []⟩ = pure (ps.zip us)
abbrev BindsKw (x : Str) (st : Stmt) (ps ks : List Str) (n m : Nat) (pm : List Nat) : Prop := ∀ (kV doc pmv : Value) (an : Option Addr) (cdv ct : Value) (us ws : List Value), us.length = n → ws.length = m →
  bindArgs (PySem.W.fnOf x x (defArgs st) (defBody st) (defScope st) .none kV doc pmv an cdv ct) ⟨us, ks.zip ws⟩ = pure (ps.zip (permA n m pm us ws))
section
variable {B : Bs} {X : Cx} {k : Nat} {ps : List Str} {sp : DSp} {R : Er → Prop} {E : XK} {x : Str} {st : Stmt} {p pos : Pos} {e : Expr} {es : List Expr} {fs fk : GA} {ks : List Str} {kws : List Keyword} {n m : Nat} {pm : List Nat}
theorem ed_o (O : OkD X.prog X.w X.K X.mg X.base B.W.T x st k ps sp) (b : BindsP x st ps) (hr : Room k X.A) (hx : Passes (L2.CX X.prog X.w) X E) (hE : FinE B.W X.kn B.F B.H R E) (ha : AD B X (e :: es) fs) (hg : Gl X x := by rfl) (hdb : (x == ("__debug__" : Str)) = false := by decide)
    (he : starEach (e :: es) X.env = (false, eval e X.env) :: starEach es X.env := by rfl) (hpl : (backTo pos (starEach es X.env)).any (·.1) = false := by rfl) : ED B X (.Call (.Name x p) (e :: es) [] pos) (gCall sp B.W.p R fs) := by
  obtain ⟨f, fd, hm, F, G⟩ := O.ex
  exact ed_call G hr hg hm F.kp (F.binds b) hx hE ha hdb he hpl
theorem ed_g (O : OkG X.prog X.w X.K X.mg X.base B.W.T x st k ps sp) (b : BindsP x st ps) (hG : X.A.guards = some []) (hr : Room k X.A) (hx : Passes (L2.CX X.prog X.w) X E) (hE : FinE B.W X.kn B.F B.H R E) (ha : AD B X (e :: es) fs) (hg : Gl X x := by rfl) (hdb : (x == ("__debug__" : Str)) = false := by decide)
    (he : starEach (e :: es) X.env = (false, eval e X.env) :: starEach es X.env := by rfl) (hpl : (backTo pos (starEach es X.env)).any (·.1) = false := by rfl) : ED B X (.Call (.Name x p) (e :: es) [] pos) (gCall sp B.W.p R fs) := by
  obtain ⟨f, fd, hm, F, G⟩ := O.ex
  exact ed_callG G hG hr hg hm F.kp (F.binds b) hx hE ha hdb he hpl
theorem kb_of {K : PySem.W.Frag} {f : Addr} {fd : FuncData} (F : Fun K x x st f fd) (hp : ps ≠ []) (b : BindsKw x st ps ks n m pm) : KBinds K fd ps ks (permA n m pm) (permA n m pm) := by
  obtain ⟨oc, od, kV, doc, pmv, an, cdv, ct, osl, rfl, lk, hcd⟩ := F.ex
  exact kb_perm hp fun us ws h1 h2 => b kV doc pmv an cdv ct us ws h1 h2
theorem ed_ok (O : OkD X.prog X.w X.K X.mg X.base B.W.T x st k ps sp) (hp : ps ≠ []) (b : BindsKw x st ps ks n m pm) (hr : Room k X.A) (hx : Passes (L2.CX X.prog X.w) X E) (hE : FinE B.W X.kn B.F B.H R E) (ha : AD B X (e :: es) fs) (hkw : KD B X kws fk) (hg : Gl X x := by rfl)
    (hall : (backToKw pos (keywordEach kws X.env)).all (·.1.isSome) = true := by rfl) (hks : (backToKw pos (keywordEach kws X.env)).filterMap (·.1) = ks := by rfl)
    (hdb : (x == ("__debug__" : Str)) = false := by decide) (he : starEach (e :: es) X.env = (false, eval e X.env) :: starEach es X.env := by rfl)
    (hpl : ((backTo pos (starEach (e :: es) X.env)).any (·.1) || (backToKw pos (keywordEach kws X.env)).any (·.1.isNone)) = false := by rfl) : ED B X (.Call (.Name x p) (e :: es) kws pos) (gCallK sp n m pm B.W.p R fs fk) := by
  obtain ⟨f, fd, hm, F, G⟩ := O.ex
  exact ed_callK G hr hg hm F.kp (kb_of F hp b) hx hE ha hkw hall hks hdb he hpl
theorem ed_ok0 (O : OkD X.prog X.w X.K X.mg X.base B.W.T x st k ps sp) (hp : ps ≠ []) (b : BindsKw x st ps ks n m pm) (hr : Room k X.A) (hx : Passes (L2.CX X.prog X.w) X E) (hE : FinE B.W X.kn B.F B.H R E) (hkw : KD B X kws fk) (hg : Gl X x := by rfl)
    (hall : (backToKw pos (keywordEach kws X.env)).all (·.1.isSome) = true := by rfl) (hks : (backToKw pos (keywordEach kws X.env)).filterMap (·.1) = ks := by rfl)
    (hdb : (x == ("__debug__" : Str)) = false := by decide)
    (hpl : ((backTo pos (starEach [] X.env)).any (·.1) || (backToKw pos (keywordEach kws X.env)).any (·.1.isNone)) = false := by rfl) : ED B X (.Call (.Name x p) [] kws pos) (gCallK sp n m pm B.W.p R gNil fk) := by
  obtain ⟨f, fd, hm, F, G⟩ := O.ex
  exact ed_callK0 G hr hg hm F.kp (kb_of F hp b) hx hE hkw hall hks hdb hpl
end
end ND

/-! ND9: the deck: making it, drawing from it -/
namespace ND
open PySem PySem.Spec L2
open PyProof.Rows (envOfC)

theorem nbMax : bootBuiltins "max" = some (.builtin "max") := by decide +kernel
theorem nbMin : bootBuiltins "min" = some (.builtin "min") := by decide +kernel
theorem nbInt : bootBuiltins "int" = some (.type "int") := by decide +kernel
theorem nbBool : bootBuiltins "bool" = some (.type "bool") := by decide +kernel
theorem nbTuple : bootBuiltins "tuple" = some (.type "tuple") := by decide +kernel
theorem nbList : bootBuiltins "list" = some (.type "list") := by decide +kernel
theorem nbDict : bootBuiltins "dict" = some (.type "dict") := by decide +kernel
theorem nbStr : bootBuiltins "str" = some (.type "str") := by decide +kernel
theorem nbLen : bootBuiltins "len" = some (.builtin "len") := by decide +kernel
theorem nbAbs : bootBuiltins "abs" = some (.builtin "abs") := by decide +kernel
theorem nbIsi : bootBuiltins "isinstance" = some (.builtin "isinstance") := by decide +kernel
theorem nbRepr : bootBuiltins "repr" = some (.builtin "repr") := by decide +kernel

theorem nosl {x : Str} {j : Nat} {p : Pos} : NoSl (.Constant (.str x) j p) := fun _ _ => rfl
abbrev iM (t : TA) : TE := tCB (fun xs H Q => (∃ i, xs = [V.int i] ∧ Q (V.int i) H) ∨ ∃ k, xs = [V.bl k] ∧ Q (V.int (if k = true then 1 else 0)) H) t
abbrev aP (a b : TE) : TE := tOp (rI0 fun i j => V.int (i + j)) a b
abbrev mP (a b : TE) : TE := tOp (rI CMul fun i j => V.int (i * j)) a b
abbrev rP (a b : TE) : TE := tOp (rI (fun _ j => 0 < j) fun i j => V.int (i % j)) a b
abbrev fP (a b : TE) : TE := tOp (rI CDivW fun i j => V.int (i / j)) a b
abbrev dG (k : Str) : TE := tDGet (tVar 0) (tC (V.str k))
abbrev tDraw6 : TS :=
  tSeq (tAsg (rP (iM (tCons (mP (tVar 2) (tC (V.int 40692))) tNil)) (tC (V.int 2147483647))) (gName 2))
  (tRet (rP (iM (tCons (fP (tVar 2) (tC (V.int 64))) tNil)) (tVar 1)))
abbrev tDraw5 : TS :=
  tSeq (tAsg (rP (iM (tCons (aP (aP (mP (tVar 2) (tVar 2)) (mP (tC (V.int 52774)) (dG "draws"))) (tC (V.int 17))) tNil)) (tC (V.int 2147483399))) (gName 2)) tDraw6
abbrev tDraw4 : TS :=
  tSeq (tAsg (rP (iM (tCons (aP (mP (tVar 2) (tC (V.int 40014))) (tC (V.int 91))) tNil)) (tC (V.int 2147483563))) (gName 2)) tDraw5
abbrev tDraw3 (K : PySem.W.Frag) : TS :=
  tIfS (tTest (tOp (rNeD K) (dG "left") (tLst tNil)))
    (tSeq (tAsg (tBM0 K "list" rPop (dG "left")) (gName 3))
      (tSeq (tIfS (tTest (tOp (rI0 fun i j => V.bl (decide (j ≤ i))) (tVar 3) (tOp (rI CPow fun i j => V.int (i ^ j.toNat)) (tC (V.int 10)) (tC (V.int 18)))))
        (tSeq (tDrop (tBM K "list" rAppend (dG "left") (tCons (fP (tVar 3) (tCB (fun xs H Q => ∃ i j, xs = [V.int i, V.int j] ∧ Q (V.int (if j > i then j else i)) H) (tCons (tC (V.int 2)) (tCons (tVar 1) tNil)))) tNil)))
          (tRet (rP (iM (tCons (tVar 3) tNil)) (tVar 1))))
        tNext)
      (tAsg (aP (tVar 2) (rP (iM (tCons (tVar 3) tNil)) (tC (V.int 2147483629)))) (gName 2))))
    tNext
abbrev tDraw (c : Int) (K : PySem.W.Frag) : TS :=
  tSeq (sDPut (tVar 0) (tC (V.str "draws")) (aP (dG "draws") (tC (V.int 1))))
  (tSeq (tAsg (aP (dG "mixed") (mP (tC (V.int c)) (dG "draws"))) (gName 2))
  (tSeq (tDraw3 K) tDraw4))

theorem kl_d : (Sum.inr (PySem.Str.ofString "left") : Key) ≠ Sum.inr (PySem.Str.ofString "draws") := by decide +kernel
theorem km_d : (Sum.inr (PySem.Str.ofString "mixed") : Key) ≠ Sum.inr (PySem.Str.ofString "draws") := by decide +kernel
theorem kl_m : (Sum.inr (PySem.Str.ofString "left") : Key) ≠ Sum.inr (PySem.Str.ofString "mixed") := by decide +kernel
section
variable {H : Hp} {d l : Addr} {m n : Int} {ns : List Int}
theorem dg_left (h : H d = some (deckO l m n)) : DGet H d (.str "left") (some (.ref l)) := .inl ⟨_, .inr "left", .inl h, rfl, by rw [valV_pos rfl]⟩
theorem dg_mixed (h : H d = some (deckO l m n)) : DGet H d (.str "mixed") (some (.int m)) := .inl ⟨_, .inr "mixed", .inl h, rfl, by rw [valV_neg kl_m, valV_pos rfl]⟩
theorem dg_draws (h : H d = some (deckO l m n)) : DGet H d (.str "draws") (some (.int n)) := .inl ⟨_, .inr "draws", .inl h, rfl, by rw [valV_neg kl_d, valV_neg km_d, valV_pos rfl]⟩
theorem dp_draws (h : H d = some (deckO l m n)) (k : Int) : DPut H d (.str "draws") (.int k) (upd H d (deckO l m k)) := .inl ⟨_, .inr "draws", h, rfl, by show 3 < sizeLine; decide, by
  have e : putK [((Sum.inr "left" : Key), V.ref l), (Sum.inr "mixed", V.int m), (Sum.inr "draws", V.int n)] (Sum.inr "draws") (V.int k) = [((Sum.inr "left" : Key), V.ref l), (Sum.inr "mixed", V.int m), (Sum.inr "draws", V.int k)] := by
    unfold putK
    simp only [List.any_cons, decide_true, Bool.true_or, Bool.or_true, List.any_nil, if_true, List.map_cons, List.map_nil, kl_d, km_d, if_false]
  rw [e]
  rfl⟩
theorem dp_ints {K : PySem.W.Frag} : ∀ ns : List Int, DpAll K H (ns.map V.int) (ns.map PyData.int)
  | [] => .nil
  | n :: ns => .cons (.int n) (dp_ints ns)
theorem ints_lay : ∀ ns : List Int, PyData.canLayAll0 (ns.map PyData.int) = true ∧ PyData.depthAll (ns.map PyData.int) ≤ 1
  | [] => by simp [PyData.canLayAll0, PyData.depthAll]
  | n :: ns => by
    obtain ⟨h1, h2⟩ := ints_lay ns
    simp only [List.map_cons, PyData.canLayAll0, PyData.depthAll, PyData.canLay0, PyData.depth, Bool.true_and]
    exact ⟨h1, Nat.max_le.mpr ⟨Nat.zero_le _, h2⟩⟩
theorem ints_shaped (ns : List Int) : SeqAt.shaped (.list (ns.map PyData.int)) = true := by
  obtain ⟨h1, h2⟩ := ints_lay ns
  show ((PyData.list (ns.map PyData.int)).canLay0 && decide ((PyData.list (ns.map PyData.int)).depth ≤ 64)) = true
  have d1 : (PyData.list (ns.map PyData.int)).canLay0 = true := by simpa [PyData.canLay0] using h1
  have d2 : (PyData.list (ns.map PyData.int)).depth ≤ 64 := by
    simp only [PyData.depth]
    exact Nat.le_trans (Nat.succ_le_succ h2) (by decide)
  rw [d1, decide_eq_true d2]
  rfl
theorem ints_empty : ∀ ns : List Int, PyData.eqv (.list (ns.map PyData.int)) (.list []) = ns.isEmpty
  | [] => by simp [PyData.eqv, PyData.eqvAll]
  | n :: ns => by simp [PyData.eqv, PyData.eqvAll]

/-- what the deck has become -/
structure DkAt (d l : Addr) (H H' : Hp) (m n : Int) (ns : List Int) : Prop where
  hd : H' d = some (deckO l m n)
  hl : H' l = some (.lst (ns.map V.int))
  kp : ∀ a o, H a = some o → a ≠ d → a ≠ l → H' a = some o
  st : ∀ a, H a ≠ none → H' a ≠ none
  nt : ∀ a ps, H' a = some (.tbl ps) → H a = some (.tbl ps)
theorem DkAt.grow {F H' : Hp} {m' n' : Int} {ns' : List Int} {T : List (Addr × Str)} (h0 : DeckIn ⟨some (d, l), T⟩ F H) (e : Same F H) (h : DkAt d l H H' m' n' ns') (hl : ns'.length ≤ 63) (h1 : 0 ≤ m') (h2 : m' < 2147483587) : Grow ⟨some (d, l), T⟩ F H F H' ∧ DeckIn ⟨some (d, l), T⟩ F H' := by
  have z0 := h0.dk _ rfl
  have zd : ∀ a o, H a = some o → (∀ ks, o ≠ .dK ks) → (∀ xs, o ≠ .lst xs) → H' a = some o := fun a o q n1 n2 => by
    obtain ⟨_, _, _, e1, e2, _⟩ := z0.st
    refine h.kp a o q (fun z => ?_) (fun z => ?_)
    · rw [z, show H d = _ from e1] at q
      exact n1 _ (Option.some.inj q).symm
    · rw [z, show H l = _ from e2] at q
      exact n2 _ (Option.some.inj q).symm
  refine ⟨⟨Same.refl F, fun a o q => h.kp a o (e a o q) (fun z => ?_) (fun z => ?_), fun a o q w _ => h.kp a o q (fun z => w (.inl ⟨_, rfl, .inl z⟩)) fun z => w (.inl ⟨_, rfl, .inr z⟩), fun a q _ => q, h.st⟩, fun p hp => ?_, h0.tf, fun x hx => ?_, h0.nf, fun a ps e => h0.ot a ps (h.nt a ps e)⟩
  · have := z0.fd
    rw [← show a = d from z, q] at this
    cases this
  · have := z0.fl
    rw [← show a = l from z, q] at this
    cases this
  · cases hp
    exact ⟨z0.fd, z0.fl, z0.ne, ns', m', n', h.hd, h.hl, hl, h1, h2⟩
  · obtain ⟨ps, a1, a2, a3⟩ := h0.tb x hx
    refine ⟨ps, zd _ _ a1 (fun _ z => nomatch z) (fun _ z => nomatch z), a2, fun pos cv hc => ?_⟩
    obtain ⟨c, b1, b2⟩ := a3 pos cv hc
    exact ⟨c, b1, zd _ _ b2 (fun _ z => nomatch z) (fun _ z => nomatch z)⟩
theorem mod_lt' {a b : Int} (h : 0 < b) : 0 ≤ a % b ∧ a % b < b := ⟨Int.emod_nonneg _ (by omega), Int.emod_lt_of_pos _ h⟩
theorem small64 {a : Int} (h1 : 0 ≤ a) (h2 : a < 4294967296) : -(2 ^ 64) < a ∧ a < 2 ^ 64 := by
  have e : (2 : Int) ^ 64 = 18446744073709551616 := by decide
  omega
theorem draw6 {D : Ends} {k z : Int} {y : Option V} (hz : 0 ≤ z ∧ z < 2147483399) (hk : 0 < k) (hQ : ∀ r, 0 ≤ r → r < k → D.rt (.int r) H) : tDraw6 D [some (.ref d), some (.int k), some (.int z), y] H := by
  refine ⟨_, rfl, _, _, rfl, rfl, .inl (small64 hz.1 (by omega)), .inl ⟨_, rfl, _, _, rfl, rfl, (by show (0 : Int) < 2147483647; decide), ?_⟩⟩
  refine ⟨_, rfl, _, _, rfl, rfl, ⟨by decide, by decide⟩, .inl ⟨_, rfl, _, rfl, _, _, rfl, rfl, hk, ?_⟩⟩
  exact hQ _ (mod_lt' hk).1 (mod_lt' hk).2
theorem draw5 {D : Ends} {k z : Int} {y : Option V} (hd : H d = some (deckO l m n)) (hz : 0 ≤ z ∧ z < 2147483563) (hk : 0 < k) (hQ : ∀ r, 0 ≤ r → r < k → D.rt (.int r) H) : tDraw5 D [some (.ref d), some (.int k), some (.int z), y] H :=
  ⟨_, rfl, _, rfl, _, _, rfl, rfl, .inl (small64 hz.1 (by omega)), _, rfl, _, _, rfl, dg_draws hd, _, _, rfl, rfl, .inl (small64 (by decide) (by decide)), _, _, rfl, rfl, _, _, rfl, rfl, .inl ⟨_, rfl, _, _, rfl, rfl, (by show (0 : Int) < 2147483399; decide), draw6 (mod_lt' (by decide)) hk hQ⟩⟩
theorem draw4 {D : Ends} {k z : Int} {y : Option V} (hd : H d = some (deckO l m n)) (hk : 0 < k) (hQ : ∀ r, 0 ≤ r → r < k → D.rt (.int r) H) : tDraw4 D [some (.ref d), some (.int k), some (.int z), y] H :=
  ⟨_, rfl, _, _, rfl, rfl, .inr (small64 (by decide) (by decide)), _, _, rfl, rfl, .inl ⟨_, rfl, _, _, rfl, rfl, (by show (0 : Int) < 2147483563; decide), draw5 hd (mod_lt' (by decide)) hk hQ⟩⟩
theorem draw_law {K : PySem.W.Frag} {c : Int} {D : Ends} {k : Int} {y1 y2 : Option V} (hc : -(2 ^ 64) < c ∧ c < 2 ^ 64) (hd : H d = some (deckO l m n)) (hl : H l = some (.lst (ns.map V.int))) (hdl : d ≠ l) (hn : ns.length ≤ 63) (hk : 0 < k) (hk2 : k < 2 ^ 62)
    (hQ : ∀ H' n' ns' r, DkAt d l H H' m n' ns' → ns'.length ≤ 63 → 0 ≤ r → r < k → D.rt (.int r) H') : tDraw c K D [some (.ref d), some (.int k), y1, y2] H := by
  refine ⟨_, rfl, _, _, rfl, dg_draws hd, _, _, rfl, rfl, _, rfl, _, _, rfl, dp_draws hd (n + 1), ?_⟩
  have hd1 : upd H d (deckO l m (n + 1)) d = some (deckO l m (n + 1)) := upd_same
  have hl1 : upd H d (deckO l m (n + 1)) l = some (.lst (ns.map V.int)) := by rw [upd_ne hdl.symm]; exact hl
  have k1 : ∀ a o, H a = some o → a ≠ d → a ≠ l → upd H d (deckO l m (n + 1)) a = some o := fun a o q z _ => by rw [upd_ne z]; exact q
  have s1 : ∀ a, H a ≠ none → upd H d (deckO l m (n + 1)) a ≠ none := fun a q => upd_keep q
  have t1 : ∀ a ps, upd H d (deckO l m (n + 1)) a = some (.tbl ps) → H a = some (.tbl ps) := ot_upd (by intro _ z; cases z)
  generalize upd H d (deckO l m (n + 1)) = H1 at hd1 hl1 k1 s1 t1 ⊢
  refine ⟨_, rfl, _, _, rfl, dg_mixed hd1, _, rfl, _, _, rfl, dg_draws hd1, _, _, rfl, rfl, .inl hc, _, _, rfl, rfl, ?_⟩
  generalize m + c * (n + 1) = z
  refine ⟨_, rfl, _, _, rfl, dg_left hd1, Nat.zero_le _, fun p hp => ?_⟩
  have npd : d ≠ p := ne_of_none hd1 hp
  have npl : l ≠ p := ne_of_none hl1 hp
  have hd2 : upd H1 p (.lst []) d = some (deckO l m (n + 1)) := by rw [upd_ne npd]; exact hd1
  have hl2 : upd H1 p (.lst []) l = some (.lst (ns.map V.int)) := by rw [upd_ne npl]; exact hl1
  have k2 : ∀ a o, H a = some o → a ≠ d → a ≠ l → upd H1 p (.lst []) a = some o := fun a o q z z2 => by
    have w := k1 a o q z z2
    rw [upd_ne (ne_of_none w hp)]
    exact w
  have s2 : ∀ a, H a ≠ none → upd H1 p (.lst []) a ≠ none := fun a q => upd_keep (s1 a q)
  have hp2 : upd H1 p (.lst []) p = some (.lst []) := upd_same
  have t2 : ∀ a ps, upd H1 p (.lst []) a = some (.tbl ps) → H a = some (.tbl ps) := fun a ps e => t1 a ps (ot_upd (by intro _ z; cases z) a ps e)
  generalize upd H1 p (.lst []) = H2 at hd2 hl2 k2 s2 hp2 t2 ⊢
  refine ⟨.list (ns.map PyData.int), .list [], .lst (SqL.of hl2) (dp_ints ns), .lst (SqL.of hp2) .nil, ints_shaped ns, by decide +kernel, _, rfl, ?_⟩
  rw [ints_empty]
  cases hns : ns.isEmpty with
  | true => exact draw4 hd2 hk fun r h1 h2 => hQ H2 (n + 1) ns r ⟨hd2, hl2, k2, s2, t2⟩ hn h1 h2
  | false =>
    have hne : ns ≠ [] := by
      intro z
      rw [z] at hns
      cases hns
    obtain ⟨cs, cell, rfl⟩ : ∃ cs cell, ns = cs ++ [cell] := ⟨ns.dropLast, ns.getLast hne, (List.dropLast_concat_getLast hne).symm⟩
    have hcs : cs.length + 1 ≤ 63 := by simpa using hn
    have e0 : ((cs ++ [cell]).map V.int).dropLast = cs.map V.int := by simp
    refine ⟨_, rfl, _, _, rfl, dg_left hd2, .inl ⟨rfl, _, SqL.of hl2⟩, _, _, .int cell, rfl, rfl, hl2, by simp, ?_⟩
    rw [e0]
    have hd3 : upd H2 l (.lst (cs.map V.int)) d = some (deckO l m (n + 1)) := by rw [upd_ne hdl]; exact hd2
    have hl3 : upd H2 l (.lst (cs.map V.int)) l = some (.lst (cs.map V.int)) := upd_same
    have k3 : ∀ a o, H a = some o → a ≠ d → a ≠ l → upd H2 l (.lst (cs.map V.int)) a = some o := fun a o q z z2 => by rw [upd_ne z2]; exact k2 a o q z z2
    have s3 : ∀ a, H a ≠ none → upd H2 l (.lst (cs.map V.int)) a ≠ none := fun a q => upd_keep (s2 a q)
    have t3 : ∀ a ps, upd H2 l (.lst (cs.map V.int)) a = some (.tbl ps) → H a = some (.tbl ps) := fun a ps e => t2 a ps (ot_upd (by intro _ z; cases z) a ps e)
    generalize upd H2 l (.lst (cs.map V.int)) = H3 at hd3 hl3 k3 s3 t3 ⊢
    refine ⟨_, rfl, _, _, rfl, rfl, ⟨by decide, by decide, by decide⟩, _, _, rfl, rfl, _, rfl, ?_⟩
    refine ite2 (fun hbig => ?_) (fun hbig => ?_)
    · skip
      have hmax : 0 < (if k > 2 then k else 2) ∧ (if k > 2 then k else 2) < 2 ^ 62 := by
        have e62 : (2 : Int) ^ 62 = 4611686018427387904 := by decide
        rw [e62] at hk2 ⊢
        split <;> omega
      refine ⟨_, rfl, _, _, rfl, dg_left hd3, .inl ⟨rfl, _, SqL.of hl3⟩, _, rfl, _, rfl, _, _, rfl, _, _, rfl, rfl, ⟨hmax.1, ?_⟩, _, _, _, rfl, rfl, hl3, by rw [List.length_map]; exact Nat.lt_of_le_of_lt (by omega : cs.length ≤ 63) (by decide), ?_⟩
      · have h9 : (if k > 2 then k else 2).natAbs < 2 ^ 62 := by
          have e62 : (2 : Int) ^ 62 = 4611686018427387904 := by decide
          have f62 : (2 : Nat) ^ 62 = 4611686018427387904 := by decide
          rw [e62] at hmax
          rw [f62]
          omega
        exact Nat.lt_of_le_of_lt (PySem.W.mg_log (k := 61) h9) (by decide)
      · refine ⟨_, rfl, .inl ⟨_, rfl, _, rfl, _, _, rfl, rfl, hk, ?_⟩⟩
        refine hQ _ (n + 1) (cs ++ [cell / (if k > 2 then k else 2)]) _ ⟨?_, ?_, fun a o q z z2 => ?_, fun a q => upd_keep (s3 a q), fun a ps e => t3 a ps (ot_upd (by intro _ z; cases z) a ps e)⟩ (by simpa using hcs) (mod_lt' hk).1 (mod_lt' hk).2
        · rw [upd_ne hdl]; exact hd3
        · rw [upd_same]; simp
        · rw [upd_ne z2]; exact k3 a o q z z2
    · refine ⟨_, rfl, _, rfl, .inl ⟨_, rfl, _, _, rfl, rfl, (by show (0 : Int) < 2147483629; decide), _, _, rfl, rfl, ?_⟩⟩
      exact draw4 hd3 hk fun r h1 h2 => hQ H3 (n + 1) cs r ⟨hd3, hl3, k3, s3, t3⟩ (by omega) h1 h2
end
/-- what drawing keeps -/
def spDraw : DSp := fun W ds Q _ => ∃ d l k, W = some (d, l) ∧ ds = [.opq (.ref d), .int k] ∧ 0 < k ∧ k < 2 ^ 62 ∧ ∀ r, 0 ≤ r → r < k → Q (.int r)
theorem okDraw {P : Program} {w : World} {K : PySem.W.Frag} {mg : Str → Option Value} {base : Heap} {x qual : Str} {st : Stmt} {f : Addr} {fd : FuncData} {N ps : List Str} {c : Int} {T : List (Addr × Str)} (F : Fun K x qual st f fd) (S : FnScope N ps (defScope st)) (hN : N.length = 4) (hp : ps.length = 2) (hc : -(2 ^ 64) < c ∧ c < 2 ^ 64)
    (body : ∀ (cdv : Value) (A : Around) (outer : List Env) (s : Shared) (H : Hp) (E : XK), Room 0 (A.deeper (envOfC qual (defScope st) s.heap.objs.size f cdv)) → PSs (cxD P w K mg base N qual st f cdv A outer s H E) (defBody st) (tDraw c K)) : FnOk P w K mg base (L2.CX P w) 1 f fd ps (liftSp ⟨K, mg⟩ T spDraw) := by
  refine F.okX S (fun vs H Q E ⟨W, F, ds, Qd, Rd, h1, h2, h3, ⟨d, l, k, _, h4, _⟩, _⟩ => ?_) fun cdv A outer s H vs Q E hr ⟨W, F, ds, Qd, Rd, h1, h2, h3, ⟨d, l, k, hW, hds, hk, hk2, hq⟩, h5, h6⟩ => ?_
  · rw [h3.length, h4, hp]
    rfl
  · refine ⟨_, body cdv A outer s H E hr, ?_⟩
    subst hds hW
    obtain ⟨v1, v2, rfl, r1, r2⟩ : ∃ v1 v2, vs = [v1, v2] ∧ Rep ⟨K, mg⟩ F v1 (.opq (.ref d)) ∧ Rep ⟨K, mg⟩ F v2 (.int k) := by
      cases h3 with
      | cons a t =>
        cases t with
        | cons b t =>
          cases t
          exact ⟨_, _, rfl, a, b⟩
    cases r1
    cases r2
    have dk := h2.dk _ rfl
    obtain ⟨ns, m, n, e1, e2, e3, e4, e5⟩ := dk.st
    have es : L2.start N [V.ref d, V.int k] = [some (.ref d), some (.int k), none, none] := by
      unfold L2.start
      rw [hN]
      rfl
    rw [es]
    exact draw_law hc e1 e2 dk.ne e3 hk hk2 fun H' n' ns' r z hl hr0 hr1 => by
      obtain ⟨g, dk'⟩ := z.grow h2 h1 hl e4 e5
      exact h5 _ (hq r hr0 hr1) F H' _ g dk' (.int r)
end ND

/-! ND10: making the deck; the law's own def -/
namespace ND
open PySem PySem.Spec L2
open PyProof.Rows (envOfC)

abbrev sL (K : PySem.W.Frag) : TE := tSl (rSlL K) (tVar 0) tNoPart (tPart (tC (V.int 63)))
abbrev tDeck (c b : Int) (K : PySem.W.Frag) : TS :=
  tSeq (tAsg (tC (V.int c)) (gName 1))
  (tSeq (tFor (iList K (sL K)) (gName 2) (tAsg (rP (iM (tCons (aP (aP (mP (tVar 1) (tC (V.int 48271))) (rP (iM (tCons (tVar 2) tNil)) (tC (V.int 2147483629)))) (tC (V.int b))) tNil)) (tC (V.int 2147483587))) (gName 1)))
  (tRet (tDisp [(tC (V.str "left"), tRevL K (tCB (fun xs H Q => ∃ p ys, xs = [V.ref p] ∧ (SqL K H p ys ∨ SqT K H p ys) ∧ ∀ l, H l = none → Q (V.ref l) (upd H l (.lst ys))) (tCons (sL K) tNil))), (tC (V.str "mixed"), tVar 1), (tC (V.str "draws"), tC (V.int 0))])))
theorem cut_ints (ns : List Int) (lo hi : Option Int) (h : ns.length ≤ 63) : ∃ ms : List Int, cutV (ns.map V.int) lo hi = ms.map V.int ∧ ms.length ≤ 63 := by
  refine ⟨(ns.drop (HT.sIx (ns.map V.int).length 0 lo)).take (HT.sIx (ns.map V.int).length (ns.map V.int).length hi - HT.sIx (ns.map V.int).length 0 lo), ?_, ?_⟩
  · unfold cutV
    rw [List.map_take, List.map_drop]
  · rw [List.length_take, List.length_drop]
    omega
theorem merge_deck (l : Addr) (m n : Int) : mergeK [] [((Sum.inr "left" : Key), V.ref l), (Sum.inr "mixed", V.int m), (Sum.inr "draws", V.int n)] = [((Sum.inr "left" : Key), V.ref l), (Sum.inr "mixed", V.int m), (Sum.inr "draws", V.int n)] := by
  have a1 := kl_m
  have a2 := kl_d
  have a3 := km_d
  simp [mergeK, putK, a1, a2, a3]
section
variable {K : PySem.W.Frag} {H : Hp} {a : Addr} {ns : List Int} {c b : Int} {D : Ends}
theorem deck_law (hc : 0 ≤ c ∧ c < 2147483587) (hS : SqL K H a (ns.map V.int)) (hn : ns.length ≤ 63)
    (hQ : ∀ (H' : Hp) (d l : Addr) (m : Int) (ns' : List Int), Same H H' → (∀ a ps, H' a = some (.tbl ps) → H a = some (.tbl ps)) → H d = none → H l = none → d ≠ l → H' d = some (deckO l m 0) → H' l = some (.lst (ns'.map V.int)) → ns'.length ≤ 63 → 0 ≤ m → m < 2147483587 → D.rt (.ref d) H') :
    tDeck c b K D [some (.ref a), none, none] H := by
  obtain ⟨ms, em, hm⟩ := cut_ints ns none (some 63) hn
  refine ⟨_, rfl, _, rfl, a, _, rfl, hS, fun p hp => ⟨p, rfl, ⟨_, SqL.of upd_same⟩, ?_⟩⟩
  have hSp : Same H (upd H p (.lst (ms.map V.int))) := same_new hp
  rw [em]
  refine for_list (K := K) (a := p) (xs := ms.map V.int) (fun i σ H' => H' = upd H p (.lst (ms.map V.int)) ∧ ∃ m v, σ = [some (.ref a), some (.int m), v] ∧ 0 ≤ m ∧ m < 2147483587) ⟨rfl, c, none, rfl, hc⟩ (fun i σ H' _ ⟨e, _⟩ => by rw [e]; exact SqL.of upd_same) ?_ ?_
  · rintro i y σ H' hi ⟨rfl, m, v, rfl, h1, h2⟩
    obtain ⟨z, rfl⟩ : ∃ z, y = V.int z := by
      obtain ⟨z, _, e⟩ := List.mem_map.mp (List.mem_of_getElem? hi)
      exact ⟨z, e.symm⟩
    exact ⟨_, rfl, _, _, rfl, rfl, .inr (small64 (by decide) (by decide)), _, rfl, .inl ⟨_, rfl, _, _, rfl, rfl, (by show (0 : Int) < 2147483629; decide), _, _, rfl, rfl, _, _, rfl, rfl, .inl ⟨_, rfl, _, _, rfl, rfl, (by show (0 : Int) < 2147483587; decide), rfl, _, _, rfl, mod_lt' (by decide)⟩⟩⟩
  · rintro σ H' ⟨rfl, m, v, rfl, h1, h2⟩
    have tSp : ∀ a ps, upd H p (.lst (ms.map V.int)) a = some (.tbl ps) → H a = some (.tbl ps) := ot_upd (by intro _ z; cases z)
    generalize upd H p (.lst (ms.map V.int)) = H1 at hSp tSp
    intro d hd
    have hS1 : Same H1 (upd H1 d (.dK [])) := same_new hd
    have hd2 : upd H1 d (.dK []) d = some (.dK []) := upd_same
    have d0 := hSp.free hd
    have hS' := hSp.trans hS1
    have tS' : ∀ a ps, upd H1 d (.dK []) a = some (.tbl ps) → H a = some (.tbl ps) := fun a ps e => tSp a ps (ot_upd (by intro _ z; cases z) a ps e)
    generalize upd H1 d (.dK []) = H2 at hd2 hS' tS'
    refine ⟨_, rfl, _, rfl, a, _, rfl, hS'.seq hS, fun q hq => ?_⟩
    have hd3 : upd H2 q (.lst (cutV (ns.map V.int) none (some 63))) d = some (.dK []) := by rw [upd_ne (ne_of_none hd2 hq)]; exact hd2
    have hS3 := hS'.trans (same_new (o := .lst (cutV (ns.map V.int) none (some 63))) hq)
    have hq3 : upd H2 q (.lst (cutV (ns.map V.int) none (some 63))) q = some (.lst (cutV (ns.map V.int) none (some 63))) := upd_same
    have tS3 : ∀ a ps, upd H2 q (.lst (cutV (ns.map V.int) none (some 63))) a = some (.tbl ps) → H a = some (.tbl ps) := fun a ps e => tS' a ps (ot_upd (by intro _ z; cases z) a ps e)
    generalize upd H2 q (.lst (cutV (ns.map V.int) none (some 63))) = H3 at hd3 hS3 hq3 tS3
    refine ⟨q, _, rfl, .inl (SqL.of hq3), fun r hr => ?_⟩
    rw [em] at hq3 ⊢
    have hd4 : upd H3 r (.lst (ms.map V.int)) d = some (.dK []) := by rw [upd_ne (ne_of_none hd3 hr)]; exact hd3
    have hS4 := hS3.trans (same_new (o := .lst (ms.map V.int)) hr)
    have hr4 : upd H3 r (.lst (ms.map V.int)) r = some (.lst (ms.map V.int)) := upd_same
    have tS4 : ∀ a ps, upd H3 r (.lst (ms.map V.int)) a = some (.tbl ps) → H a = some (.tbl ps) := fun a ps e => tS3 a ps (ot_upd (by intro _ z; cases z) a ps e)
    generalize upd H3 r (.lst (ms.map V.int)) = H4 at hd4 hS4 hr4 tS4
    refine ⟨r, _, rfl, SqL.of hr4, fun l hl => ?_⟩
    have ndl : d ≠ l := ne_of_none hd4 hl
    have l0 := hS4.free hl
    have er : (ms.map V.int).reverse = (ms.reverse).map V.int := by rw [List.map_reverse]
    rw [er]
    refine ⟨_, rfl, by rw [upd_ne ndl]; exact hd4, [(.inr "left", .ref l), (.inr "mixed", .int m), (.inr "draws", .int 0)], rfl, (by show 3 ≤ 15; decide), ?_⟩
    rw [merge_deck]
    refine hQ _ d l m ms.reverse (fun b o e => ?_) (fun a ps e => tS4 a ps (ot_upd (by intro _ z; cases z) a ps (ot_upd (by intro _ z; cases z) a ps e))) d0 l0 ndl upd_same (by rw [upd_ne ndl.symm]; exact upd_same) (by simpa using hm) h1 h2
    have nb : b ≠ d := fun z => by rw [z, d0] at e; cases e
    rw [upd_ne nb]
    have nb2 : b ≠ l := fun z => by rw [z, l0] at e; cases e
    rw [upd_ne nb2]
    exact hS4 _ _ e
end
/-- a new deck -/
def spDeck (K : PySem.W.Frag) : Sp := fun vs H Q _ => ∃ (a : Addr) (ns : List Int), vs = [.ref a] ∧ SqL K H a (ns.map V.int) ∧ ns.length ≤ 63 ∧ ∀ H' d l, Same H H' → (∀ a ps, H' a = some (.tbl ps) → H a = some (.tbl ps)) → H d = none → H l = none → DeckAt (d, l) (fun _ => none) H' → Q (.ref d) H'
theorem okDeck {P : Program} {w : World} {K : PySem.W.Frag} {mg : Str → Option Value} {base : Heap} {x qual : Str} {st : Stmt} {f : Addr} {fd : FuncData} {N ps : List Str} {c b : Int} (F : Fun K x qual st f fd) (S : FnScope N ps (defScope st)) (hN : N.length = 3) (hp : ps.length = 1) (hc : 0 ≤ c ∧ c < 2147483587)
    (body : ∀ (cdv : Value) (A : Around) (outer : List Env) (s : Shared) (H : Hp) (E : XK), Room 0 (A.deeper (envOfC qual (defScope st) s.heap.objs.size f cdv)) → PSs (cxD P w K mg base N qual st f cdv A outer s H E) (defBody st) (tDeck c b K)) : FnOk P w K mg base (L2.CX P w) 1 f fd ps (spDeck K) := by
  refine F.okX S (fun vs H Q E ⟨a, ns, h1, _⟩ => ?_) fun cdv A outer s H vs Q E hr ⟨a, ns, h1, h2, h3, h4⟩ => ⟨_, body cdv A outer s H E hr, ?_⟩
  · rw [h1, hp]
    rfl
  · subst h1
    have es : L2.start N [V.ref a] = [some (.ref a), none, none] := by
      unfold L2.start
      rw [hN]
      rfl
    rw [es]
    exact deck_law hc h2 h3 fun H' d l m ns' s1 t1 d0 l0 ndl e1 e2 hl m0 m1 => h4 H' d l s1 t1 d0 l0 ⟨rfl, rfl, ndl, ns', m, 0, e1, e2, hl, m0, m1⟩

/-! ### the law: its first statement makes the deck -/
def hp0 : Hp := fun _ => none
theorem pss_deck {T : List (Addr × Str)} {X : Cx} {rest : List Stmt} {g : WD → GS} (h : ∀ p H0, SDs ⟨⟨some p, T⟩, hp0, H0⟩ X rest (g (some p))) : PSs X rest fun Dn s H => ∃ p H0, LS ⟨⟨some p, T⟩, hp0, H0⟩ X.kn (g (some p)) Dn s H :=
  ⟨fun pins s σ H Dn I ⟨p, H0, q⟩ => (h p H0).run.run pins s σ H Dn I q⟩
/-- what the law promises -/
def spLaw (K : PySem.W.Frag) (T : List (Addr × Str)) : Sp := fun vs H Q _ => ∃ (a : Addr) (script : List Int), vs = [.ref a] ∧ SqL K H a (script.map V.int) ∧ script.length ≤ 63 ∧ (∀ x, x ∈ T → H x.1 = some (.tbl #[])) ∧ (∀ a ps, H a = some (.tbl ps) → ∃ x, x ∈ T ∧ a = x.1) ∧ ∀ G, Q (.bl true) G
theorem okLaw {P : Program} {w : World} {K : PySem.W.Frag} {mg : Str → Option Value} {base : Heap} {x qual : Str} {st s0 : Stmt} {rest : List Stmt} {f : Addr} {fd : FuncData} {N : List Str} {y : Str} {k : Nat} {g : WD → GS} {T : List (Addr × Str)} (F : Fun K x qual st f fd) (S : FnScope N [y] (defScope st)) (hN : 1 < N.length)
    (hst : defBody st = s0 :: rest)
    (body : ∀ (cdv : Value) (A : Around) (outer : List Env) (s : Shared) (H : Hp) (E : XK), (A.deeper (envOfC qual (defScope st) s.heap.objs.size f cdv)).guards = some [] → Room k (A.deeper (envOfC qual (defScope st) s.heap.objs.size f cdv)) →
      PassesOwn (model P w) (cxD P w K mg base N qual st f cdv A outer s H E).A (cxD P w K mg base N qual st f cdv A outer s H E).env (cxD P w K mg base N qual st f cdv A outer s H E).xe →
      Passes (L2.CX P w) (cxD P w K mg base N qual st f cdv A outer s H E) E →
      PS (cxD P w K mg base N qual st f cdv A outer s H E) s0 (tAsg (tCall (spDeck K) [] E (tCons (tVar 0) tNil)) (gName 1)) ∧
      ∀ p H0, SDs ⟨⟨some p, T⟩, hp0, H0⟩ (cxD P w K mg base N qual st f cdv A outer s H E) rest (g (some p)))
    (law : ∀ (d l : Addr) (v : V), g (some (d, l)) (endsD fun r => r = .bl true) (.d (.opq v) :: .d (.opq (.ref d)) :: List.replicate (N.length - 2) .no)) : FnG P w K mg base (k + 1) f fd [y] (spLaw K T) := by
  obtain ⟨oc, od, kV, doc, pm, an, cdv, ct, osl, rfl, lk, hcd⟩ := F.ex
  refine fn_ofG lk hcd S (fun vs H Q E ⟨a, ns, h1, _⟩ => by rw [h1]; rfl) fun A outer s H vs Q E hG hr ⟨a, ns, h1, h2, h3, hT, hO, h4⟩ => ?_
  subst h1
  obtain ⟨b1, b2⟩ := body cdv A outer s H E hG hr (passes_of rfl) (passes_call (takes_of rfl rfl rfl rfl) fun _ _ _ _ z => z)
  have b3 := pss_cons b1 (pss_deck b2)
  rw [← hst] at b3
  refine ⟨_, b3, ?_⟩
  have es : L2.start N [V.ref a] = some (.ref a) :: none :: List.replicate (N.length - 2) none := by
    unfold L2.start
    obtain ⟨m, hm⟩ : ∃ m, N.length = m + 2 := ⟨N.length - 2, by omega⟩
    rw [hm]
    rfl
  rw [es]
  refine ⟨_, rfl, a, ns, rfl, h2, h3, fun H' d l s1 t1 d0 l0 dk => ?_⟩
  refine ⟨(d, l), H', .d (.opq (.ref a)) :: .d (.opq (.ref d)) :: List.replicate (N.length - 2) .no, hp0, endsD fun r => r = .bl true, ?_, law d l (.ref a), ?_⟩
  · have dki : DeckIn ⟨some (d, l), T⟩ hp0 H' := ⟨fun p hp => by cases hp; exact dk, fun _ _ => rfl, fun x hx => LamX.TabS.nil (s1 _ _ (hT x hx)), fun _ _ z => (nomatch z), fun a ps e => hO a ps (t1 a ps e)⟩
    refine ⟨Grow.refl fun _ _ z => (nomatch z), dki, dki, by simp, fun _ => none, ⟨fun i j a z => (nomatch z), fun i a z => (nomatch z)⟩, fun i z v e1 e2 => ?_⟩
    match i with
    | 0 =>
      simp only [List.getElem?_cons_zero, Option.some.injEq] at e1
      have e2' : some (some (V.ref a)) = some v := e2
      cases e2'
      subst e1
      exact .opq _
    | 1 =>
      have e1' : some (SV.d (.opq (.ref d))) = some z := e1
      have e2' : some (some (V.ref d)) = some v := e2
      cases e1'
      cases e2'
      exact .opq _
    | i + 2 =>
      have e1' : (List.replicate (N.length - 2) SV.no)[i]? = some z := e1
      have e2' : (List.replicate (N.length - 2) (none : Option V))[i]? = some v := e2
      have h1 := List.eq_of_mem_replicate (List.mem_of_getElem? e1')
      have h2 := List.eq_of_mem_replicate (List.mem_of_getElem? e2')
      subst h1 h2
      exact True.intro
  · refine ⟨fun _ _ _ _ _ _ z => ?_, fun r v F' H2 _ _ rv e => ?_, fun _ _ _ _ _ _ z => z.elim, fun _ _ _ _ _ _ z => z.elim⟩
    · cases (show D.non = .bl true from z)
    · subst e
      cases rv
      exact h4 _
end ND

/-! ND11: the end of a law, from FnG -/
namespace ND
open PySem PySem.Spec L2 PyProof.Rows
open PyProof.Rows (envOfC)

/-- the script alone is tracked, if it is not of the written part -/
def scH (K : PySem.W.Frag) (a : Addr) (o : Obj) (ns : List Int) : Hp := fun b => if b = a ∧ K.lookup a = none then some (.frz o (.lst (ns.map V.int))) else none
theorem scH_some {K : PySem.W.Frag} {a b : Addr} {o : Obj} {ns : List Int} {u : HO} (h : scH K a o ns b = some u) : b = a ∧ K.lookup a = none ∧ u = .frz o (.lst (ns.map V.int)) := by
  unfold scH at h
  split at h
  · rename_i c
    cases h
    exact ⟨c.1, c.2, rfl⟩
  · cases h
theorem scH_none {K : PySem.W.Frag} {a b : Addr} {o : Obj} {ns : List Int} (h : b = a → K.lookup a ≠ none) : scH K a o ns b = none := by
  unfold scH
  rw [if_neg fun c => h c.1 c.2]
theorem run_law {P : Program} {w : World} {K : PySem.W.Frag} {mg mb : Str → Option Value} {k : Nat} {fa a : Addr} {fd : FuncData} {x : Str} {sp : Sp} {t : Shared} {vs : List Value} {ns : List Int}
    (KX : K.In t.heap) (nsM : t.heap.Ns mainGlobals mg) (nsB : t.heap.Ns builtinsNs mb) (bb : ∀ y : Str, y ≠ "__name__" → mb y = bootBuiltins y) (lim : t.heap.NoLimit) (gens : t.gens = #[])
    (ha : t.heap.get? a = some { cls := .type "list", data := .seq vs.toArray }) (hi : IntsAre vs ns) (hl : ns.length ≤ sizeLine) (room : Room k callerA)
    (G : ∀ base : Heap, K.In base → base.Ns mainGlobals mg → FnG P w K mg base k fa fd [x] sp) (bind : ∀ (s : Shared) (u : Value), BindsTo s fd ⟨[u], []⟩ [(x, u)])
    (ask : ∀ H : Hp, SqL K H a (ns.map V.int) → (∀ b ps, H b ≠ some (.tbl ps)) → sp [.ref a] H (fun v _ => v = .bl true) fun _ _ _ => False) :
    codeAny (model P w) callerA (.call (.ref fa) ⟨[.ref a], []⟩) (fun r s' => r = .ok (.ret (.bool true)) ∧ OldK t.heap s'.heap ∧ s'.os = t.os ∧ AllBare s'.gens) t := by
  have vals := vals_ints hi
  have sameLen := hi.length
  generalize hH : scH K a { cls := .type "list", data := .seq vs.toArray } ns = H
  have inH : ∀ {b : Addr} {u : HO}, H b = some u → b = a ∧ K.lookup a = none ∧ u = .frz { cls := .type "list", data := .seq vs.toArray } (.lst (ns.map V.int)) := fun e => by
    rw [← hH] at e
    exact scH_some e
  have outH : ∀ {b : Addr}, (b = a → K.lookup a ≠ none) → H b = none := fun e => by
    rw [← hH]
    exact scH_none e
  have seqA : SqL K H a (ns.map V.int) := by
    cases ek : K.lookup a with
    | none =>
      refine .inl (.inr ⟨{ cls := .type "list", data := .seq vs.toArray }, ?_⟩)
      rw [← hH]
      unfold scH
      rw [if_pos ⟨rfl, ek⟩]
    | some o =>
      have same := KX a o ek
      rw [ha] at same
      cases same
      exact .inr ⟨_, vs.toArray, _, ek, rfl, rfl, rfl, by rw [List.size_toArray, sameLen]; exact hl, by simpa using vals⟩
  have okH : HOk P w H t.heap := fun b u e => by
    obtain ⟨rfl, _, rfl⟩ := inH e
    exact ⟨ha, by rw [List.length_map]; exact hl, vs, _, vals, ha⟩
  have stays : ∀ {b : Addr} {o : Obj}, t.heap.get? b = some o → H b = none → (hidT t.heap H).get? b = some o := fun e n => hidT_get e n
  have nsStays : ∀ {b : Addr} {m : Str → Option Value}, t.heap.Ns b m → (hidT t.heap H).Ns b m := fun {b m} ⟨o, es, ep, e, dt, r⟩ => by
    refine ⟨o, es, ep, stays e ?_, dt, r⟩
    cases q : H b with
    | none => rfl
    | some u =>
      obtain ⟨rfl, _, _⟩ := inH q
      rw [ha] at e
      cases e
      exact absurd (show Data.seq vs.toArray _ = Data.dict es ep from dt) (by intro z; cases z)
  have kIn : K.In (hidT t.heap H) := fun b o e => stays (KX b o e) (outH fun z => by
    subst z
    rw [e]
    exact Option.some_ne_none _)
  obtain ⟨mc, l1, l2⟩ := lim
  have env : Env0 P w K mg (hidT t.heap H) callerA [] t H := ⟨rfl, ⟨kIn, nsStays nsM, ⟨mb, nsStays nsB, bb⟩, mc, nsStays l1, l2⟩, fun b o e => of_hidT e, Nat.le_of_eq (hidT_size _ _), trivial, fun b hb => (nomatch hb), okH, .of_eq gens⟩
  have run := (G _ kIn (nsStays nsM)).run callerA [] t H ⟨[.ref a], []⟩ [.ref a] [.ref a] _ _ rfl room env (bind t (.ref a)) (.cons rfl .nil) (ask H seqA fun b ps e => by obtain ⟨_, _, z⟩ := inH e; cases z)
  refine codeAny_mono run fun r s' h => ?_
  rcases r with e | fl
  · obtain ⟨_, _, _, _, _, _, _, _, _, _, _, _, no⟩ := (show L2.CX P w [] H t (fun _ _ _ => False) e s' from h)
    exact no.elim
  · cases fl with
    | ret u =>
      obtain ⟨v, H', os, bare, un, hok', r', q⟩ := h
      have q' : v = .bl true := q
      subst q'
      obtain rfl : u = Value.bool true := r'
      refine ⟨rfl, OldK.of_keep fun b o e => ?_, os, bare⟩
      cases q : H b with
      | none => exact un.keep b o e q (fun z => (nomatch z)) (by simp)
      | some u =>
        obtain ⟨rfl, _, rfl⟩ := inH q
        obtain ⟨g1, _⟩ := hok' b _ (un.frzs b _ _ q)
        rw [ha] at e
        cases e
        exact g1
    | next => exact False.elim h
    | brk => exact False.elim h
    | cont => exact False.elim h
theorem walkG {l : PySem.W.OpenLaw} {k : Nat} {q : Program} {loose : List Str} {XP : (Str → Option Value) → Heap → Prop} {YP : World → Heap → Prop} {d : DefRec} {K : Params → PySem.W.Frag} {x : Str}
    (hn : l.most = some 63) (hdf : d.params.defaults = []) (hr : Room k callerA) (hY : ∀ (w : World) (h : Heap), YP w h → (K w.params).In h)
    (G : ∀ (w : World) (mg : Str → Option Value) (fa : Addr) (h : Heap), (K w.params).In h → h.Ns mainGlobals mg → mg d.name = some (.ref fa) →
      ∃ fd : FuncData, (∀ (s : Shared) (u : Value), BindsTo s fd ⟨[u], []⟩ [(x, u)]) ∧ ∀ base : Heap, (K w.params).In base → base.Ns mainGlobals mg → FnG l.prog w (K w.params) mg base k fa fd [x] (spLaw (K w.params) [])) :
    PySem.W.WalkO q loose XP YP l.row.toRowW d [] (fun f vs => PySem.call f vs) := by
  refine Att.attach_callB hn hdf fun w s₀ t mg mb fa o pm cd doc a vs ns Gd Y ho hd hcd hmg hobj hints hlen hbits hg => ?_
  have inK := hY w _ Y
  obtain ⟨fd, bind, run⟩ := G w mg fa _ inK Gd.T.g hmg
  exact run_law inK Gd.T.g Gd.T.b Gd.T.builtins Gd.T.nolimit hg hobj hints (Nat.le_trans hlen (by decide)) hr run bind fun H hS nt => ⟨a, ns, rfl, hS, hlen, fun _ z => (nomatch z), fun b ps e => absurd e (nt b ps), fun _ => rfl⟩
theorem hu65_of {A : Around} {k : Nat} (hr : Room k A) : A.units + 65 < cLine := by have := hr.un; omega
end ND
namespace ND
open PySem PySem.Spec L2
/-! ### for the plain laws -/
@[simp] theorem addD_i (i j : Int) (Q : D → Prop) : addD (.int i) (.int j) Q = Q (.int (i + j)) := rfl
@[simp] theorem addD_s (i j : Str) (Q : D → Prop) : addD (.str i) (.str j) Q = (i.length + j.length ≤ sizeLine ∧ Q (.str (i ++ j))) := rfl
@[simp] theorem addD_t (i j : List D) (Q : D → Prop) : addD (.tup i) (.tup j) Q = (i.length + j.length ≤ sizeLine ∧ Q (.tup (i ++ j))) := rfl
@[simp] theorem addD_l (i j : List D) (Q : D → Prop) : addD (.lst i) (.lst j) Q = (i.length + j.length ≤ sizeLine ∧ Q (.lst (i ++ j))) := rfl
@[simp] theorem subD_i (i j : Int) (Q : D → Prop) : subD (.int i) (.int j) Q = Q (.int (i - j)) := rfl
@[simp] theorem mulD_i (i j : Int) (Q : D → Prop) : mulD (.int i) (.int j) Q = (ND.MulOk i j ∧ Q (.int (i * j))) := rfl
@[simp] theorem fdivD_i (i j : Int) (Q : D → Prop) : fdivD (.int i) (.int j) Q = (0 < j ∧ j.natAbs.log2 < 9000 ∧ Q (.int (i / j))) := rfl
@[simp] theorem modD_i (i j : Int) (Q : D → Prop) : modD (.int i) (.int j) Q = (0 < j ∧ Q (.int (i % j))) := rfl
@[simp] theorem powD_i (i j : Int) (Q : D → Prop) : powD (.int i) (.int j) Q = (0 ≤ j ∧ j ≤ 1000000 ∧ i.natAbs < 2 ^ 64 ∧ Q (.int (i ^ j.toNat))) := rfl
@[simp] theorem negD_i (i : Int) (Q : D → Prop) : negD (.int i) Q = Q (.int (-i)) := rfl
@[simp] theorem ltD_i (i j : Int) (Q : D → Prop) : ltD (.int i) (.int j) Q = Q (.bl (decide (i < j))) := rfl
@[simp] theorem leD_i (i j : Int) (Q : D → Prop) : leD (.int i) (.int j) Q = Q (.bl (decide (i ≤ j))) := rfl
@[simp] theorem gtD_i (i j : Int) (Q : D → Prop) : gtD (.int i) (.int j) Q = Q (.bl (decide (j < i))) := rfl
@[simp] theorem geD_i (i j : Int) (Q : D → Prop) : geD (.int i) (.int j) Q = Q (.bl (decide (j ≤ i))) := rfl
@[simp] theorem truthD_b (i : Bool) (Q : Bool → Prop) : truthD (.bl i) Q = Q i := rfl
@[simp] theorem truthD_n (Q : Bool → Prop) : truthD .non Q = Q false := rfl
@[simp] theorem truthD_i (i : Int) (Q : Bool → Prop) : truthD (.int i) Q = Q (i != 0) := rfl
@[simp] theorem truthD_t (i : List D) (Q : Bool → Prop) : truthD (.tup i) Q = Q (!i.isEmpty) := rfl
@[simp] theorem truthD_l (i : List D) (Q : Bool → Prop) : truthD (.lst i) Q = Q (!i.isEmpty) := rfl
@[simp] theorem lenD_l (i : List D) (Q : D → Prop) : lenD [.lst i] Q = Q (.int i.length) := rfl
@[simp] theorem lenD_t (i : List D) (Q : D → Prop) : lenD [.tup i] Q = Q (.int i.length) := rfl
@[simp] theorem lenD_s (x : Str) (Q : D → Prop) : lenD [.str x] Q = (x.length ≤ sizeLine ∧ Q (.int x.length)) := rfl
@[simp] theorem intD_i (i : Int) (Q : D → Prop) : intD [.int i] Q = Q (.int i) := rfl
@[simp] theorem intD_b (i : Bool) (Q : D → Prop) : intD [.bl i] Q = Q (.int (if i = true then 1 else 0)) := rfl
@[simp] theorem intD_s (x : Str) (Q : D → Prop) : intD [.str x] Q = (∃ n, intText? x = some n ∧ x.length ≤ 640 ∧ Q (.int n)) := rfl
@[simp] theorem absD_i (i : Int) (Q : D → Prop) : absD [.int i] Q = Q (.int (if i < 0 then -i else i)) := rfl
@[simp] theorem max2D_i (i j : Int) (Q : D → Prop) : max2D [.int i, .int j] Q = Q (.int (if j > i then j else i)) := rfl
@[simp] theorem min2D_i (i j : Int) (Q : D → Prop) : min2D [.int i, .int j] Q = Q (.int (if j < i then j else i)) := rfl
@[simp] theorem gcdD_i (i j : Int) (Q : D → Prop) : gcdD [.int i, .int j] Q = Q (.int ((Nat.gcd i.natAbs j.natAbs : Nat) : Int)) := rfl
@[simp] theorem isqrtD_i (i : Int) (Q : D → Prop) : isqrtD [.int i] Q = (0 ≤ i ∧ i.toNat.log2 < 13000 ∧ Q (.int ((Float64.isqrt i.toNat : Nat) : Int))) := rfl
@[simp] theorem isiD_t (x : D) (T : String) (Q : D → Prop) : isiD [x, .opq (.ty T)] Q = (knownT T = true ∧ (tyD x).isSome = true ∧ Q (.bl (isiB T x))) := rfl
@[simp] theorem reprD_x (x : D) (Q : D → Prop) : reprD [x] Q = (pl 64 x = true ∧ (toPy x).showable = true ∧ (toPy x).shown.length ≤ sizeLine ∧ Q (.str (toPy x).shown)) := rfl
@[simp] theorem repS_i (x : Str) (k : Int) (Q : D → Prop) : repS (.str x) (.int k) Q = (1 ≤ k ∧ x.length * k.toNat ≤ sizeLine ∧ x.length ≠ 0 ∧ Q (.str (Txt.mul x k))) := rfl
@[simp] theorem eqD_s (a b : Str) (Q : D → Prop) : eqD (.str a) (.str b) Q = Q (.bl (decide (a = b))) := rfl
@[simp] theorem neD_s (a b : Str) (Q : D → Prop) : neD (.str a) (.str b) Q = Q (.bl (!decide (a = b))) := rfl
@[simp] theorem eqD_l (a : List D) (y : D) (Q : D → Prop) : eqD (.lst a) y Q = (pl 64 (.lst a) = true ∧ pl 64 y = true ∧ Q (.bl (eqb (.lst a) y))) := rfl
@[simp] theorem neD_l (a : List D) (y : D) (Q : D → Prop) : neD (.lst a) y Q = (pl 64 (.lst a) = true ∧ pl 64 y = true ∧ Q (.bl (!eqb (.lst a) y))) := rfl
@[simp] theorem eqD_t (a : List D) (y : D) (Q : D → Prop) : eqD (.tup a) y Q = (pl 64 (.tup a) = true ∧ pl 64 y = true ∧ Q (.bl (eqb (.tup a) y))) := rfl
@[simp] theorem neD_t (a : List D) (y : D) (Q : D → Prop) : neD (.tup a) y Q = (pl 64 (.tup a) = true ∧ pl 64 y = true ∧ Q (.bl (!eqb (.tup a) y))) := rfl
@[simp] theorem knInt : knownT "int" = true := by decide
@[simp] theorem knBool : knownT "bool" = true := by decide
@[simp] theorem knTup : knownT "tuple" = true := by decide
@[simp] theorem knList : knownT "list" = true := by decide
@[simp] theorem knStr : knownT "str" = true := by decide
@[simp] theorem knDict : knownT "dict" = true := by decide
@[simp] theorem eqb_int (i j : Int) : eqb (.int i) (.int j) = decide (i = j) := by simp [eqb, toPy, PyData.eqv, BEq.beq]
@[simp] theorem eqb_str (i j : Str) : eqb (.str i) (.str j) = decide (i = j) := by
  simp only [eqb, toPy, PyData.eqv]
  rw [Bool.eq_iff_iff]
  simp
@[simp] theorem eqb_nil : eqb (.lst []) (.lst []) = true := by decide +kernel
@[simp] theorem pl_int (n : Nat) (i : Int) : pl n (.int i) = true := by cases n <;> simp [pl]
@[simp] theorem pl_bl (n : Nat) (i : Bool) : pl n (.bl i) = true := by cases n <;> simp [pl]
@[simp] theorem pl_non (n : Nat) : pl n .non = true := by cases n <;> simp [pl]
@[simp] theorem eqD_i (i j : Int) (Q : D → Prop) : eqD (.int i) (.int j) Q = Q (.bl (decide (i = j))) := by
  show (pl 64 (.int i) = true ∧ pl 64 (.int j) = true ∧ Q (.bl (eqb (.int i) (.int j)))) = _
  simp
@[simp] theorem neD_i (i j : Int) (Q : D → Prop) : neD (.int i) (.int j) Q = Q (.bl (!decide (i = j))) := by
  show (pl 64 (.int i) = true ∧ pl 64 (.int j) = true ∧ Q (.bl (!eqb (.int i) (.int j)))) = _
  simp
@[simp] theorem ix_t3_0 (a b c : D) (Q : D → Prop) : ixD (.tup [a, b, c]) (.int 0) Q = Q a := by simp [ixD, atI, ixN]
@[simp] theorem ix_t3_1 (a b c : D) (Q : D → Prop) : ixD (.tup [a, b, c]) (.int 1) Q = Q b := by simp [ixD, atI, ixN]
@[simp] theorem ix_t3_2 (a b c : D) (Q : D → Prop) : ixD (.tup [a, b, c]) (.int 2) Q = Q c := by simp [ixD, atI, ixN]
@[simp] theorem lineLe (n : Nat) (h : n ≤ 1000 := by decide) : n ≤ sizeLine ↔ True := ⟨fun _ => trivial, fun _ => Nat.le_trans h (by decide)⟩
end ND

/-! ND12: own errors over Exception, with one field -/
namespace ND
open PySem PySem.Spec L2 Builtin Builtin.ObjectAttr
open PyProof.Rows (envOfC)

abbrev exT : List Value := [.type "Exception", .type "BaseException", .type "object"]
/-- what the written part says of an error's class nm, at C, whose __init__(self, fld) stores fld -/
structure ErC (K : PySem.W.Frag) (mg : Str → Option Value) (nm fld : Str) (C fI : Addr) : Prop where
  gC : mg nm = some (.ref C)
  ini : PySem.W.excInitIn K C exT "Exception.__new__" = true
  ovr : PySem.W.excOver K C exT = true
  tkr : PySem.W.takerIn K C fld = some none
  noN : PySem.W.findIn K (.ref C) fld = some none
  sa : PySem.W.findIn K (.ref C) "__setattr__" = some (some (.builtin "object.__setattr__"))
  iC : PySem.W.findIn K (.ref C) "__init__" = some (some (.ref fI))
  tC : PySem.W.typeIn K (.ref fI) = some (.type "function")
  kC : PySem.W.keepIn K (.ref C) = true
  exC : PySem.W.subIn K (.ref C) (.type "BaseException") = some true
  tyC : PySem.W.typeIn K (.ref C) = some (.type "type")
  hdC : PySem.W.hasDictIn K C = true
section
variable {prog : Program} {w : World} {A : Around} {E : Value → Shared → Prop} {R : Result → Shared → Prop} {hp : Heap} {g : Array GenState} {d : Drawn} {t : Nat} {os : OsState} {K : PySem.W.Frag} {mg : Str → Option Value} {nm fld : Str} {C fI : Addr}
theorem er_store {tk : Tok} {v : Value} {x t0 : Addr} (T : ErC K mg nm fld C fI) (X : K.In hp) (hx : hp.get? x = some (HandSPX.excO C t0))
    (hq : ∀ h' tk' dx, (∀ b o, b ≠ x → hp.get? b = some o → h'.get? b = some o) → hp.objs.size ≤ dx → dx ≠ x → h'.get? x = some { cls := .ref C, dict := some dx, data := .fields #[.ref t0, .none, .none, .none, .bool false, .none] } →
      h'.Ns1 dx (fun y => if y = fld then some v else none) → R (.ok (.ret .none)) ⟨h', g, d, tk', os⟩) :
    codeAny (model prog w) A (.call (.builtin "object.__setattr__") ⟨[.ref x, .str fld tk, v], []⟩) R ⟨hp, g, d, t, os⟩ := by
  obtain ⟨cd, hc, _⟩ := PySem.W.any_some T.ovr
  have hh : cd.hasDict = true := by
    have h1 := T.hdC
    unfold PySem.W.hasDictIn at h1
    rw [hc] at h1
    exact h1
  have other : x ≠ hp.objs.size := Nat.ne_of_lt (Heap.lt_size hx)
  refine PySem.W.osa_openX (s := ⟨hp, g, d, t, os⟩) F.store_Exception X (ox := HandSPX.excO C t0) (od := none) ⟨hx, rfl, rfl, trivial⟩ T.ovr T.tkr fun b => ?_
  have hcls : PySem.W.Looks (model prog w) hp (classData C) cd := PySem.W.looks_clsIn X hc
  obtain ⟨cn, bs, mro, ns, qn, hd, sn, sb, ab, col, del⟩ := cd
  dsimp only at hh
  subst hh
  show wpAny _ _ (storeInOwnDict (.ref x) (.ref C) (.str fld tk) fld v b) _ _ _
  unfold storeInOwnDict ownDictForStores
  repeat (first | with_reducible refine HandSPX.store_in_new ?_ ?_ | with_reducible refine wpAny_loadPart_at hx ?_ | with_reducible refine hcls.at ?_ | wp_step)
  · exact ⟨_, #[], _, (Heap.get?_update_ne _ _ _ _ other.symm).trans (Heap.get?_push_at rfl rfl), rfl, fun e he => absurd he (by simp), fun _ => rfl⟩
  · intro h' tk' named only
    have still : (hp.push { cls := .type "dict", data := .dict #[] }).get? x = some (HandSPX.excO C t0) := Heap.get?_push_of_some _ hx
    exact hq h' tk' hp.objs.size (fun b o hb ho => (only.2 b (Nat.ne_of_lt (Heap.lt_size ho))).trans ((Heap.get?_update_ne _ _ _ _ hb).trans (Heap.get?_push_of_some _ ho))) (Nat.le_refl _) other.symm ((only.2 x other).trans (Heap.get?_update_self _ still rfl)) named
/-- what is left of C(v): the error at e, its dict at dx -/
structure ErMade (h h' : Heap) (e C dx : Addr) (fld : Str) (v : Value) : Prop where
  keep : ∀ b o, h.get? b = some o → h'.get? b = some o
  new : h.objs.size ≤ e
  obj : ∃ oe vs, h'.get? e = some oe ∧ oe.cls = .ref C ∧ oe.dict = some dx ∧ oe.data = .fields vs ∧ vs[1]? = some .none
  big : h.objs.size ≤ dx
  ne : dx ≠ e
  ns : h'.Ns1 dx (fun y => if y = fld then some v else none)
/-- the text of __init__(self, fld): self.fld = fld -/
structure ErInit (K : PySem.W.Frag) (qual fld : Str) (st : Stmt) (fI : Addr) : Prop where
  fn : ∃ fd, Fun K "__init__" qual st fI fd
  body : ∃ q1 q2 q3 q4, defBody st = [.Assign [.Attribute (.Name "self" q1) fld q2] (.Name fld q3) q4]
  bind : ∀ (kV doc pm : Value) (an : Option Addr) (cdv ct a b : Value), bindArgs (PySem.W.fnOf "__init__" qual (defArgs st) (defBody st) (defScope st) .none kV doc pm an cdv ct) ⟨[a, b], []⟩ = pure [(("self" : Str), a), (fld, b)]
  kinds : ∀ a b : Value, ([(("self" : Str), a), (fld, b)].all fun y => (defScope st).names.lookup y.1 == some .local || (defScope st).names.lookup y.1 == some .cell) = true
  kSelf : ∀ L a cd, (envOfC qual (defScope st) L a cd).kindOf "self" = some .local
  kFld : ∀ L a cd, (envOfC qual (defScope st) L a cd).kindOf fld = some .local
  bSelf : ∀ L a cd (u v : Value), bindL (envOfC qual (defScope st) L a cd).kindOf [(("self" : Str), u), (fld, v)] (fun _ => none) "self" = some u
  bFld : ∀ L a cd (u v : Value), bindL (envOfC qual (defScope st) L a cd).kindOf [(("self" : Str), u), (fld, v)] (fun _ => none) fld = some v
  sc : (defScope st).kind = .function ∧ (defScope st).isGenerator = false ∧ (defScope st).isCoroutine = false
  nd : (fld == ("__debug__" : Str)) = false
theorem er_local {M : Model} {s : Shared} {env : Env} {x : Str} {pos : Pos} {v : Value} {m : Str → Option Value} {Q : Value → Shared → Prop} {A : Around} {E : Value → Shared → Prop} (hk : env.scope.kind = .function) (hl : env.kindOf x = some .local) (hn : s.heap.Ns env.locals m) (hv : m x = some v) (hd : (x == ("__debug__" : Str)) = false) (h : Q v s) :
    wpAny M A (eval (.Name x pos) env) Q E s := wpAny_Name (wpAny_loadName_local hk hl hn hv h) hd
theorem er_init {s : Shared} {x t0 : Addr} {v : Value} {qual : Str} {st : Stmt} (T : ErC K mg nm fld C fI) (N : ErInit K qual fld st fI) (X : K.In s.heap) (lim : s.heap.NoLimit) (hx : s.heap.get? x = some (HandSPX.excO C t0)) (room : A.depth < recursionLimit)
    (hq : ∀ h' tk dx, (∀ b o, b ≠ x → s.heap.get? b = some o → h'.get? b = some o) → s.heap.objs.size ≤ dx → dx ≠ x → h'.get? x = some { cls := .ref C, dict := some dx, data := .fields #[.ref t0, .none, .none, .none, .bool false, .none] } →
      h'.Ns1 dx (fun y => if y = fld then some v else none) → R (.ok (.ret .none)) { s with heap := h', toks := tk }) :
    codeAny (model prog w) A (.call (.ref fI) ⟨[.ref x, v], []⟩) R s := by
  obtain ⟨fd, oc, od, kV, doc, pm, an, cdv, ct, osl, rfl, here, code⟩ := N.fn.imp fun _ F => F.ex
  obtain ⟨q1, q2, q3, q4, text⟩ := N.body
  obtain ⟨sc1, sc2, sc3⟩ := N.sc
  refine Att.call_fn (binds := [(("self" : Str), .ref x), (fld, v)]) X lim here code room (BindsTo.of_eq (N.bind kV doc pm an cdv ct _ _)) (N.kinds _ _) (fun s₁ IC => ?_) sc3 sc2 sc1
  obtain ⟨h₁, tk₁, rfl⟩ := IC.toInCall.same
  have k : ∀ b o, s.heap.get? b = some o → h₁.get? b = some o := IC.toInCall.keep
  have names := IC.toInCall.ns
  have X₁ : K.In h₁ := X.keeps k
  have hx₁ := k _ _ hx
  rw [text]
  refine wpAny_execs_cons (plainObj_wpAny_Assign_Attribute ?_)
  refine er_local sc1 (N.kFld _ _ _) names (N.bFld _ _ _ _ _) N.nd (er_local sc1 (N.kSelf _ _ _) names (N.bSelf _ _ _ _ _) (by decide) ?_)
  refine PySem.W.set_plain X₁ (ox := HandSPX.excO C t0) (od := none) ⟨hx₁, rfl, rfl, trivial⟩ T.sa ?_
  refine er_store T X₁ hx₁ fun h₃ tk₃ dx k₃ dn dne hx₃ ns₃ => ?_
  have z : s.heap.objs.size < h₁.objs.size := names.lt
  exact wpAny_execs_nil (hq h₃ tk₃ dx (fun b o hb e => k₃ b o hb (k b o e)) (Nat.le_of_lt (Nat.lt_of_lt_of_le z dn)) dne hx₃ ns₃)
theorem er_made {s : Shared} {v : Value} {qual : Str} {st : Stmt} (T : ErC K mg nm fld C fI) (N : ErInit K qual fld st fI) (X : K.In s.heap) (lim : s.heap.NoLimit) (room : A.depth + 1 < recursionLimit)
    (hq : ∀ h' tk e dx, ErMade s.heap h' e C dx fld v → R (.ok (.ret (.ref e))) { s with heap := h', toks := tk }) : codeAny (model prog w) A (.call (.ref C) ⟨[v], []⟩) R s := by
  obtain ⟨hp, g, dr, tk, os⟩ := s
  obtain ⟨cn, Nn, qn, bs, bm, hdct, sn, sub, ab, col, dd, k0, k1, k2, k3, k5, hC, hbm⟩ := PySem.W.excInit_of X T.ini
  have k : ∀ b o, hp.get? b = some o → ((hp.push (PySem.W.kdv_tup [v])).push (HandSPX.excO C hp.objs.size)).get? b = some o := fun b o e => Heap.get?_push_of_some _ (Heap.get?_push_of_some _ e)
  have at_e : ((hp.push (PySem.W.kdv_tup [v])).push (HandSPX.excO C hp.objs.size)).get? (hp.objs.size + 1) = some (HandSPX.excO C hp.objs.size) := by heap_get
  refine HandSPX.call_own F.excBase_Exception hbm hC (PySem.W.looks_findIn X T.iC) (fun self => PySem.W.bind_fn X self T.tC) (by show 1 ≤ sizeLine; decide) ?_
  refine er_init (s := ⟨(hp.push (PySem.W.kdv_tup [v])).push (HandSPX.excO C hp.objs.size), g, dr, tk, os⟩) T N (X.keeps k) (lim.keeps k) at_e (by show A.depth + 1 < recursionLimit; exact room) fun h' tk' dx kept dn dne hx ns => ?_
  have z : hp.objs.size + 1 + 1 ≤ dx := by
    have q := dn
    rw [Heap.size_push, Heap.size_push] at q
    exact q
  exact ⟨rfl, hq h' tk' (hp.objs.size + 1) dx ⟨fun b o e => kept b o (Nat.ne_of_lt (Nat.lt_succ_of_lt (Heap.lt_size e))) (k b o e), Nat.le_succ _, ⟨_, _, hx, rfl, rfl, rfl, rfl⟩, Nat.le_trans (Nat.le_trans (Nat.le_succ _) (Nat.le_succ _)) z, dne, ns⟩⟩
end

/-! ### raising it -/
section
variable {B : Bs} {X : Cx} {C fI : Addr} {nm fld qual : Str} {st : Stmt} {a : Expr} {fa : GE} {p pos : Pos} {k : Nat} {R : Er → Prop} {E : XK}
theorem rel_one {v : V} {u : Value} (r : RelV v u) (f : Str) : RelO (List.lookup f [(fld, v)]) (if f = fld then some u else none) := by
  by_cases e : f = fld
  · subst e
    rw [if_pos rfl]
    simpa [List.lookup] using (show RelO (some v) (some u) from r)
  · rw [if_neg e]
    have b : (f == fld) = false := by simpa using e
    simp only [List.lookup, b]
    trivial
/-- nm(a) makes an error of the class at C, whose dict holds a's value -/
theorem pmk_er {t : TE} (T : ErC X.K X.mg nm fld C fI) (N : ErInit X.K qual fld st fI) (hr : Room k X.A) (ha : PE X a t) (hg : Gl X nm) (ndb : (nm == ("__debug__" : Str)) = false) (he : starEach (a :: []) X.env = (false, eval a X.env) :: starEach [] X.env := by rfl) (hpl : (backTo pos (starEach [] X.env)).any (·.1) = false := by rfl) :
    PMk X (.Call (.Name nm p) [a] [] pos) (fun σ H Q => t σ H fun v G => ∀ dx, G dx = none → Q (.ref C) (some dx) (upd G dx (.xd [(fld, v)]))) := fun pins s σ H Q I h => by
  refine wpAny_Call_Name_kw (ld_glob I hg T.gC (PySem.W.callWith_K (h₀ := X.base) I.ok.mod.kin T.kC (thn ((pa_cons ha pa_nil he).run pos pins s σ H (fun vs G => match vs with | [v] => ∀ dx, G dx = none → Q (.ref C) (some dx) (upd G dx (.xd [(fld, v)])) | _ => False) I h) fun us z ⟨vs, G, J, vals, q⟩ => ⟨J.kIn, ?_⟩) he hpl) ndb)
  match vs, vals, q with
  | [v], .cons (b := u) rv .nil, q =>
    have lim := J.nolimit
    obtain ⟨hp, g, dr, tk, os⟩ := z
    refine wpAny_call (er_made T N J.kIn lim (by have := hr.dp; omega) fun h' tk' e dx M => ?_)
    show MkP X pins σ Q (.ref e) ⟨h', g, dr, tk', os⟩
    obtain ⟨oe, fv, at_e, cls, dct, fields, ctx⟩ := M.obj
    obtain ⟨G', g1, g2⟩ := restrict h' fun b => decide (b ≠ e)
    have off : ∀ b, b ≠ e → G'.get? b = h'.get? b := fun b hb => g1 b (decide_eq_true hb)
    have gone : G'.get? e = none := g2 e (by simp)
    have old : ∀ b o, hp.get? b = some o → G'.get? b = some o := fun b o q => (off b (Nat.ne_of_lt (Nat.lt_of_lt_of_le (Heap.lt_size q) M.new))).trans (M.keep b o q)
    have ok : ObjOk X.prog X.w (upd G dx (.xd [(fld, v)])) G' dx (.xd [(fld, v)]) := ⟨_, M.ns.at (fun o q => (off dx M.ne).trans q), fun f => rel_one rv f⟩
    have J2 : Inv X pins σ (upd G dx (.xd [(fld, v)])) ⟨G', g, dr, tk', os⟩ := J.laid (t' := tk') old M.big ok
    refine ⟨e, oe, fv, ⟨G', g, dr, tk', os⟩, _, .ref C, some dx, rfl, J2, fun b o q => ?_, gone, at_e, ⟨cls, dct⟩, fields, ctx, ?_, rfl, J.bare, raises_own T.exC T.tyC, q dx (J.hok.fresh M.big)⟩
    · have hb : b ≠ e := fun z => by
        have q' : G'.get? b = some o := q
        rw [z, gone] at q'
        cases q'
      exact (off b hb).symm.trans q
    · rw [upd_ne (Ne.symm M.ne)]
      exact J.hok.fresh M.new
/-- raise nm(a) -/
@[simp] def gRaise (nm fld : Str) (fa : GE) (R : Er → Prop) (_ : Ed) (σ : List SV) : Prop := fa σ fun d => R ⟨nm, [(fld, d)]⟩
theorem sd_raise {pos2 : Pos} (hc : X.calm = true) (T : ErC X.K X.mg nm fld C fI) (N : ErInit X.K qual fld st fI) (hr : Room k X.A) (tk : Takes X (fun c o _ H => E c o H)) (hE : FinE B.W X.kn B.F B.H R E) (ha : ED B X a fa) (hg : Gl X nm := by rfl) (ndb : (nm == ("__debug__" : Str)) = false := by decide)
    (he : starEach (a :: []) X.env = (false, eval a X.env) :: starEach [] X.env := by rfl) (hpl : (backTo pos (starEach [] X.env)).any (·.1) = false := by rfl) : SD B X (.Raise (some (.Call (.Name nm p) [a] [] pos)) none pos2) (gRaise nm fld fa R) :=
  ⟨ps_imp (ps_raise hc tk (pmk_er T N hr ha.run hg ndb he hpl)) fun Dn s H ⟨σ, F, Ed, Rl, q, kk⟩ => ⟨σ, F, _, Rl, q, fun d qd F1 H1 v g1 d1 r1 dx hdx =>
    hE _ qd F1 _ (.ref C) (some dx) ((Rl.base.trans g1).trans (Grow.laid g1.fh hdx)) (d1.laid hdx) ⟨T.gC, fun _ => ⟨dx, [(fld, v)], rfl, upd_same, .cons r1 .nil⟩, fun z => nomatch z⟩⟩⟩
end
end ND

/-! ND13: try with several except clauses, named or not -/
namespace ND
open PySem PySem.Spec L2
open PyProof.Rows (envOfC)

/-- an exception that has landed at a, in the state s, to be handled -/
structure Air (X : Cx) (pins : List (Addr × Obj)) (a : Addr) (cls : Value) (d : Option Addr) (σ : L2.St) (H : Hp) (s : Shared) : Prop where
  fly : ∃ G, HandSPX.FlyingZ G (X.env :: X.outer) a (Zc cls d) s.heap ∧ (∀ h, G.StaysIn h → s.heap.UpToSlots h → Inv X pins σ H { s with heap := h }) ∧
    ∀ h (W : WX), HandSPX.HeldZ G (X.env :: X.outer) a (Zc cls d) X.env.locals h → s.heap.UpToSlots h → W cls d σ H → XE X W (.ref a) { s with heap := h }
  na : H a = none
  nL : a ≠ X.env.locals
  nF : a ∉ X.fs
section
variable {X : Cx} {pins : List (Addr × Obj)} {a : Addr} {cls : Value} {d : Option Addr} {σ : L2.St} {H : Hp} {s : Shared}
theorem Air.inv (q : Air X pins a cls d σ H s) : Inv X pins σ H s := by
  obtain ⟨G, fl, inv, _⟩ := q.fly
  exact inv s.heap fl.1 (Heap.UpToSlots.refl _)
theorem Air.again (q : Air X pins a cls d σ H s) {M : Model} {A : Around} {E : Value → Shared → Prop} {P : Unit → Shared → Prop} (h : ∀ t, Air X pins a cls d σ H t → P () t) : wpAny M A (setFlight (.ref a) none) P E s := by
  obtain ⟨G, fl, inv, out⟩ := q.fly
  exact HandSPX.lands_againZ fl fun h' fl' up => h _ ⟨⟨G, fl', fun h2 st up2 => inv h2 st (up.trans up2), fun h2 W hh up2 => out h2 W hh (up.trans up2)⟩, q.na, q.nL, q.nF⟩
theorem Air.suite (q : Air X pins a cls d σ H s) : ∃ oe, s.heap.get? a = some oe ∧ Zc cls d oe ∧ (∃ vs, oe.data = .fields vs) ∧ Inv (X.suite a ((a, oe) :: (X.pn ++ pins))) [] σ H s := by
  obtain ⟨G, fl, _, _⟩ := q.fly
  obtain ⟨oe, vs, at_a, zc, fields⟩ := fl.there
  exact ⟨oe, at_a, zc, ⟨vs, fields⟩, q.inv.suite at_a fields q.na q.nL q.nF⟩
/-- what the body lets out lands -/
theorem air_of {xe : Value → Shared → Prop} {W : WX} {u : Value} {P : Unit → Shared → Prop} {E : Value → Shared → Prop} (ok : X.Ok) (hs : X.stack = X.env :: X.outer) (hf : X.env.frame = some X.env.locals) (x : XE (X.tr (X.pn ++ pins) xe) W u s)
    (h : ∀ a cls d σ H t, u = .ref a → Air X pins a cls d σ H t → W cls d σ H → P () t) : wpAny (model X.prog X.w) X.A (noteFrame u X.env) (fun _ s₂ => wpAny (model X.prog X.w) X.A (setFlight u none) P E s₂) E s := by
  obtain ⟨a, G, sI, _, σ, H, cls, d, rfl, J', nb, up, sky, na, os, ag, w⟩ := x
  have J : Inv X pins σ H sI := J'.ofTry ok
  have frames : X.A.frames = some (X.env :: X.outer) := by rw [ok.frames, hs]
  refine Sky.land Zc.steady frames hf (by rw [← hs]; exact sky) fun h3 fl up3 => h a cls d σ H _ rfl ⟨⟨G, fl, fun h2 st up2 => J.landed nb st ((up.trans up3).trans up2) os ag, fun h2 V hh up2 v => ?_⟩, na, ?_, ?_⟩ w
  · exact ⟨a, G, sI, pins, σ, H, cls, d, rfl, J, nb, (up.trans up3).trans up2, .inr (.inr (by rw [hs]; exact hh)), na, os, ag, v⟩
  all_goals
    obtain ⟨oe, vs, at_a, _, fields⟩ := fl.there
    have out : a ∉ frs (X.env :: X.outer) := fun hm => by
      obtain ⟨_, o', e', no⟩ := fl.2.2.1.mem hm
      rw [at_a] at e'
      cases e'
      exact no _ fields
  · exact fun z => out (List.mem_filterMap.mpr ⟨X.env, List.mem_cons_self, by rw [hf, z]⟩)
  · intro hm
    obtain ⟨e, he, q⟩ := List.mem_filterMap.mp hm
    exact out (List.mem_filterMap.mpr ⟨e, List.mem_cons_of_mem _ he, q⟩)
/-- no clause is left -/
theorem Air.pass {Wout : WX} {P : Flow → Shared → Prop} (q : Air X pins a cls d σ H s) (hf : X.env.frame = some X.env.locals) (tk : Takes X Wout) (w : Wout cls d σ H) : wpAny (model X.prog X.w) X.A (handleBy (.ref a) X.env []) P X.xe s := by
  obtain ⟨G, fl, _, out⟩ := q.fly
  refine wpAny_handleBy_nil ?_
  obtain ⟨_, _, _, oe, vs, T, oT, ts, at_a, zc, fields, trace, _⟩ := id fl
  unfold PySem.passOn
  refine wpAny_bind (wpAny_field at_a fields trace ?_)
  rw [if_neg (show ¬ ((Value.ref T == Value.none) = true) from by simp)]
  have fin : wpAny (model X.prog X.w) X.A (setFlight (.ref a) X.env.frame) (fun _ s4 => wpAny (model X.prog X.w) X.A (throw (.ref a) : Sem Flow) P X.xe s4) X.xe s := by
    rw [hf]
    exact HandSPX.setFlight_upZ fl fun h4 hh up => wpAny_throw (tk _ _ (out h4 Wout hh up w))
  first
    | exact wpAny_bind (wpAny_pure (wpAny_bind fin))
    | exact wpAny_bind fin
end

/-- an except clause: its class, the slot of its name, what its suite asks -/
structure Hdl where
  c : Value
  slot : Option Nat
  ts : Addr → Value → Option Addr → TS
def goneD (D : Ends) (i : Nat) : Ends := { nx := fun σ H => D.nx (σ.set i none) H, rt := D.rt, bk := fun σ H => D.bk (σ.set i none) H, ct := fun σ H => D.ct (σ.set i none) H }
def Hdl.take (h : Hdl) (D : Ends) (a : Addr) (cls : Value) (d : Option Addr) (σ : L2.St) (H : Hp) : Prop := match h.slot with
  | none => h.ts a cls d D σ H
  | some i => h.ts a cls d (goneD D i) (σ.set i (some (.ref a))) H
def wH (K : PySem.W.Frag) (Wout : WX) (D : Ends) : List Hdl → WX
  | [] => Wout
  | h :: r => fun cls d σ H => ∃ b, PySem.W.exmOne K cls h.c = some b ∧ (b = true → ∀ a, H a = none → h.take D a cls d σ H) ∧ (b = false → wH K Wout D r cls d σ H)
inductive HdlsOk (X : Cx) : List ExceptHandler → List Hdl → Prop
  | nil : HdlsOk X [] []
  | plain {x : Str} {c : Value} {ts : Addr → Value → Option Addr → TS} {b₀ : Stmt} {suite : List Stmt} {np pos' : Pos} {hs : List ExceptHandler} {l : List Hdl} (hc : Names X x c)
      (body : ∀ (a : Addr) (oe : Obj) (cls : Value) (d : Option Addr) (pn : List (Addr × Obj)), Zc cls d oe → (∃ vs, oe.data = .fields vs) → PSs (X.suite a ((a, oe) :: pn)) (b₀ :: suite) (ts a cls d)) (r : HdlsOk X hs l) :
      HdlsOk X (.ExceptHandler (some (.Name x np)) none (b₀ :: suite) pos' :: hs) (⟨c, none, ts⟩ :: l)
  | named {x n : Str} {i : Nat} {c : Value} {ts : Addr → Value → Option Addr → TS} {b₀ : Stmt} {suite : List Stmt} {np pos' : Pos} {hs : List ExceptHandler} {l : List Hdl} (hc : Names X x c) (hi : X.N[i]? = some n) (hl : X.env.kindOf n = some .local)
      (body : ∀ (a : Addr) (oe : Obj) (cls : Value) (d : Option Addr) (pn : List (Addr × Obj)), Zc cls d oe → (∃ vs, oe.data = .fields vs) → PSs (X.suite a ((a, oe) :: pn)) (b₀ :: suite) (ts a cls d)) (r : HdlsOk X hs l) :
      HdlsOk X (.ExceptHandler (some (.Name x np)) (some n) (b₀ :: suite) pos' :: hs) (⟨c, some i, ts⟩ :: l)
section
variable {X : Cx} {pins : List (Addr × Obj)} {a : Addr} {cls : Value} {d : Option Addr} {σ : L2.St} {H : Hp} {s : Shared} {D : Ends} {Wout : WX}
/-- the test of a clause -/
theorem Air.test {x : Str} {c : Value} {np : Pos} {b : Bool} {P : Bool → Shared → Prop} {E E' : Value → Shared → Prop} (q : Air X pins a cls d σ H s) (hc : Names X x c) (hb : PySem.W.exmOne X.K cls c = some b) (h : P b s) :
    wpAny (model X.prog X.w) (X.A.mark (some (.ref a))) (eval (.Name x np) X.env) (fun c s₁ => wpAny (model X.prog X.w) (X.A.mark (some (.ref a))) (excMatches (.ref a) c) P E s₁) E' s := by
  obtain ⟨oe, at_a, zc, _, S⟩ := q.suite
  have LT : PySem.W.Looks (model X.prog X.w) s.heap (typeOf (.ref a)) cls := fun A Q E s k q => wpAny_typeOf_ref (k _ _ at_a) (by rw [zc.1]; exact q)
  have LM := PySem.W.exm_one (M := model X.prog X.w) q.inv.kIn LT hb
  obtain ⟨glob, ndb, isOwn | ⟨no, isB, nn⟩⟩ := hc
  · exact ld_glob (X := X.suite a ((a, oe) :: (X.pn ++ pins))) S glob isOwn (LM.here h) ndb
  · exact ld_blt (X := X.suite a ((a, oe) :: (X.pn ++ pins))) S glob no isB (LM.here h) nn ndb
theorem Air.by {hs : List ExceptHandler} {l : List Hdl} (hN : X.N.Nodup) (hf : X.env.frame = some X.env.locals) (tk : Takes X Wout) (q : Air X pins a cls d σ H s) (ok : HdlsOk X hs l) (w : wH X.K Wout D l cls d σ H) : wpAny (model X.prog X.w) X.A (handleBy (.ref a) X.env hs) (SP X pins D) X.xe s := by
  induction ok with
  | nil => exact q.pass hf tk w
  | plain hc body r ih =>
    obtain ⟨b, hb, yes, no⟩ := w
    refine wpAny_handleBy_cons (codeAny_handlers_test (q.test hc hb ?_)) (by intro z; cases z)
    cases b with
    | false => exact ih (no rfl)
    | true =>
      refine codeAny_handlers_suite (q.again fun t qt => ?_)
      obtain ⟨oe, at_a, zc, fields, S⟩ := qt.suite
      refine wpAny_mono ((body a oe cls d (X.pn ++ pins) zc fields).run [] t σ H _ S (yes rfl a q.na)) (fun f s6 h => ?_) fun _ _ z => z.elim
      cases f <;> first
        | (obtain ⟨v, _, _, S6, r6, q6⟩ := h; exact ⟨_, _, _, S6.unsuite q.inv.ok, r6, q6⟩)
        | (obtain ⟨_, _, S6, q6⟩ := h; exact ⟨_, _, S6.unsuite q.inv.ok, q6⟩)
  | @named x n i c ts b₀ suite np pos' hs l hc hi hl body r ih =>
    obtain ⟨b, hb, yes, no⟩ := w
    refine wpAny_handleBy_cons (codeAny_handlers_test (q.test hc hb ?_)) (by intro z; cases z)
    cases b with
    | false => exact ih (no rfl)
    | true =>
      refine codeAny_handlers_suite_as (q.again fun t qt => ?_)
      obtain ⟨oe, at_a, zc, fields, S⟩ := qt.suite
      refine store_ok (X := X.suite a ((a, oe) :: (X.pn ++ pins))) (v := .ref a) S hN hi (.inl hl) rfl (fun s5 S5 => ?_) (.inr hl)
      refine wpAny_mono ((body a oe cls d (X.pn ++ pins) zc fields).run [] s5 _ H _ S5 (yes rfl a q.na)) (fun f s6 h => ?_) fun _ _ z => z.elim
      have fin : ∀ {σ6 : L2.St} {H6 : Hp} {P : Shared → Prop}, Inv (X.suite a ((a, oe) :: (X.pn ++ pins))) [] σ6 H6 s6 → (∀ s7, Inv X pins (σ6.set i none) H6 s7 → P s7) → wpAny (model X.prog X.w) X.A (do bindName X.env n .none; unbindBehindTheSuite X.env n pos') (fun _ s7 => P s7) X.xe s6 :=
        fun {σ6 H6 P} S6 hp => gone_ok (S6.unsuite q.inv.ok) hN hi hl hp
      cases f <;> first
        | (obtain ⟨v, _, _, S6, r6, q6⟩ := h; exact fin S6 fun s7 J7 => ⟨_, _, _, J7, r6, q6⟩)
        | (obtain ⟨_, _, S6, q6⟩ := h; exact fin S6 fun s7 J7 => ⟨_, _, J7, q6⟩)
theorem ps_try_h {body : List Stmt} {h₀ : ExceptHandler} {hs : List ExceptHandler} {l : List Hdl} {tb : WX → TS} {pos : Pos} (hst : X.stack = X.env :: X.outer) (hf : X.env.frame = some X.env.locals) (hN : X.N.Nodup) (tk : Takes X Wout)
    (hb : ∀ (W : WX) (pn : List (Addr × Obj)) (xe : Value → Shared → Prop), Takes (X.tr pn xe) W → PassesOwn (model X.prog X.w) X.A X.env xe → PSs (X.tr pn xe) body (tb W)) (hh : HdlsOk X (h₀ :: hs) l) :
    PS X (.Try body (h₀ :: hs) [] [] pos) (fun D σ H => tb (wH X.K Wout D l) D σ H) :=
  ⟨fun pins s σ H D I h => by
    refine wpAny_Try_except (wpAny_mono ((hb (wH X.K Wout D l) (X.pn ++ pins) _ (fun u s' x => ?_) PassesOwn.looking).run [] s σ H D (I.toTry _) h) (fun f s1 r => ?_) fun _ _ e => e)
    · exact air_of I.ok hst hf x fun a cls d σ' H' t e q w => by
        subst e
        exact q.by hN hf tk hh w
    · cases f with
      | next =>
        obtain ⟨σ', H', J, q⟩ := r
        exact wpAny_execs_nil ⟨σ', H', J.ofTry I.ok, q⟩
      | brk =>
        obtain ⟨σ', H', J, q⟩ := r
        exact ⟨σ', H', J.ofTry I.ok, q⟩
      | cont =>
        obtain ⟨σ', H', J, q⟩ := r
        exact ⟨σ', H', J.ofTry I.ok, q⟩
      | ret u =>
        obtain ⟨v, σ', H', J, rv, q⟩ := r
        exact ⟨v, σ', H', J.ofTry I.ok, rv, q⟩⟩
end
end ND

/-! ND14: try by data (clauses that end with return) -/
namespace ND
open PySem PySem.Spec L2
open PyProof.Rows (envOfC)

theorem xd_notW {W : WT} {F H : Hp} {dx : Addr} {vs : List (Str × V)} (dk : DeckIn W F H) (e : H dx = some (.xd vs)) : ¬ InW W dx := fun z => by
  rcases z with ⟨pp, ep, o⟩ | ⟨x, hx, rfl⟩
  · obtain ⟨ns, m, n, h1, h2, _⟩ := (dk.dk _ ep).st
    rcases o with o | o <;> subst o
    · rw [h1] at e
      cases e
    · rw [h2] at e
      cases e
  · obtain ⟨ps, h1, _⟩ := dk.tb x hx
    rw [h1] at e
    cases e
theorem Rel.rebase {B : Bs} {F0 H0 : Hp} {K : Kn} {σ : List SV} {s : L2.St} {F H : Hp} (g : Grow B.W B.F B.H F0 H0) (b : DeckIn B.W B.F B.H) (R : Rel ⟨B.W, F0, H0⟩ K σ s F H) : Rel B K σ s F H := by
  obtain ⟨own, O, q⟩ := R.slots
  exact ⟨g.trans R.base, b, R.deck, R.len, own, ⟨O.inj, fun i a e => ⟨g.back (O.free i a e).1, (O.free i a e).2⟩⟩, q⟩
theorem rel_no {W : WT} {K : Kn} {F H : Hp} (e : Same F H) (dk : DeckIn W F H) (s : L2.St) : Rel ⟨W, F, H⟩ K (List.replicate s.length .no) s F H :=
  ⟨Grow.refl e, dk, dk, by simp, fun _ => none, ⟨fun _ _ _ z => (nomatch z), fun _ _ z => (nomatch z)⟩, fun i x v e1 _ => by
    have := List.eq_of_mem_replicate (List.mem_of_getElem? e1)
    subst this
    exact True.intro⟩
/-- the error er, of the class cls, its dict d, as it stands where a clause begins -/
structure ErAt (K : Kn) (W : WT) (F H : Hp) (cls : Value) (d : Option Addr) (er : Er) : Prop where
  ex : Same F H
  dk : DeckIn W F H
  rep : RepEr K F H cls d er
/-- a clause by data: its class's name, the slot of its name, its suite's reading -/
structure Cls3 where
  nm : Str
  slot : Option Nat
  g : Er → Addr → GS
def clauseStart (n : Nat) (a : Addr) : Option Nat → List SV
  | none => List.replicate n .no
  | some i => (List.replicate n .no).set i (.d (.opq (.ref a)))
/-- what is wanted of an error: by the first clause that takes it, else out -/
def hdG (M : Str → Str → Option Bool) (n : Nat) (out : Er → Prop) (Q : D → Prop) : List Cls3 → Er → Prop
  | [], er => out er
  | c :: r, er => ∃ b, M er.nm c.nm = some b ∧ if b = true then ∀ a, c.g er a { nx := fun _ => False, rt := Q, bk := fun _ => False, ct := fun _ => False } (clauseStart n a c.slot) else hdG M n out Q r er
def tsH (B : Bs) (K : Kn) (g : Er → Addr → GS) (a : Addr) (cls : Value) (d : Option Addr) : TS := fun Dn s H => ∃ F0 H0 er, ErAt K B.W F0 H0 cls d er ∧ LS ⟨B.W, F0, H0⟩ K (g er a) Dn s H
inductive ClausesOk (B : Bs) (X : Cx) : List ExceptHandler → List Cls3 → List Hdl → Prop
  | nil : ClausesOk B X [] [] []
  | plain {x : Str} {cv : Value} {g : Er → Addr → GS} {b₀ : Stmt} {suite : List Stmt} {np pos' : Pos} {hs : List ExceptHandler} {l : List Cls3} {l' : List Hdl} (hg : Gl X x) (nd : (x == ("__debug__" : Str)) = false) (hm : X.mg x = some cv)
      (body : ∀ (a : Addr) (oe : Obj) (cls : Value) (d : Option Addr) (pn : List (Addr × Obj)) (F0 H0 : Hp) (er : Er), Zc cls d oe → (∃ vs, oe.data = .fields vs) → ErAt X.kn B.W F0 H0 cls d er → SDs ⟨B.W, F0, H0⟩ (X.suite a ((a, oe) :: pn)) (b₀ :: suite) (g er a)) (r : ClausesOk B X hs l l') :
      ClausesOk B X (.ExceptHandler (some (.Name x np)) none (b₀ :: suite) pos' :: hs) (⟨x, none, g⟩ :: l) (⟨cv, none, fun a cls d => tsH B X.kn g a cls d⟩ :: l')
  | named {x n : Str} {i : Nat} {cv : Value} {g : Er → Addr → GS} {b₀ : Stmt} {suite : List Stmt} {np pos' : Pos} {hs : List ExceptHandler} {l : List Cls3} {l' : List Hdl} (hg : Gl X x) (nd : (x == ("__debug__" : Str)) = false) (hm : X.mg x = some cv) (hi : X.N[i]? = some n) (hl : X.env.kindOf n = some .local)
      (body : ∀ (a : Addr) (oe : Obj) (cls : Value) (d : Option Addr) (pn : List (Addr × Obj)) (F0 H0 : Hp) (er : Er), Zc cls d oe → (∃ vs, oe.data = .fields vs) → ErAt X.kn B.W F0 H0 cls d er → SDs ⟨B.W, F0, H0⟩ (X.suite a ((a, oe) :: pn)) (b₀ :: suite) (g er a)) (r : ClausesOk B X hs l l') :
      ClausesOk B X (.ExceptHandler (some (.Name x np)) (some n) (b₀ :: suite) pos' :: hs) (⟨x, some i, g⟩ :: l) (⟨cv, some i, fun a cls d => tsH B X.kn g a cls d⟩ :: l')
/-- the classes' relations -/
def ClsTab (K : Kn) (M : Str → Str → Option Bool) : Prop := ∀ x y b u v, M x y = some b → K.mg x = some u → K.mg y = some v → PySem.W.exmOne K.K u v = some b
section
variable {B : Bs} {X : Cx} {M : Str → Str → Option Bool}
theorem pss_er {X' : Cx} {sts : List Stmt} {g : Er → Addr → GS} {a : Addr} {cls : Value} {d : Option Addr} {K : Kn} (hk : X'.kn = K) (h : ∀ F0 H0 er, ErAt K B.W F0 H0 cls d er → SDs ⟨B.W, F0, H0⟩ X' sts (g er a)) : PSs X' sts (tsH B K g a cls d) :=
  ⟨fun pins s σ H Dn I ⟨F0, H0, er, at_, q⟩ => (h F0 H0 er at_).run.run pins s σ H Dn I (by rw [hk]; exact q)⟩
theorem ClausesOk.hdls {hs : List ExceptHandler} {l : List Cls3} {l' : List Hdl} (ok : ClausesOk B X hs l l') : HdlsOk X hs l' := by
  induction ok with
  | nil => exact .nil
  | plain hg nd hm body r ih => exact .plain ⟨hg, nd, .inl hm⟩ (fun a oe cls d pn zc fs => pss_er rfl fun F0 H0 er z => body a oe cls d pn F0 H0 er zc fs z) ih
  | named hg nd hm hi hl body r ih => exact .named ⟨hg, nd, .inl hm⟩ hi hl (fun a oe cls d pn zc fs => pss_er rfl fun F0 H0 er z => body a oe cls d pn F0 H0 er zc fs z) ih
theorem Same.trans' {A B C : Hp} (a : Same A B) (b : Same B C) : Same A C := a.trans b
/-- a clause takes what it is wanted to take -/
theorem ClausesOk.takes {hs : List ExceptHandler} {l : List Cls3} {l' : List Hdl} (ok : ClausesOk B X hs l l') {F F' H' : Hp} {Ed : Ed} {Dn : Ends} {Wout : WX} {out : Er → Prop} {cls : Value} {d : Option Addr} {er : Er} {s : L2.St} (hM : ClsTab X.kn M)
    (k : EdOk B X.kn F Ed Dn) (g : Grow B.W B.F B.H F' H') (dk : DeckIn B.W F' H') (rp : RepEr X.kn F' H' cls d er) (hl : s.length = X.N.length)
    (ho : out er → Wout cls d s H') (w : hdG M X.N.length out Ed.rt l er) : wH X.K Wout Dn l' cls d s H' := by
  have ends : ∀ i : Option Nat, EdOk ⟨B.W, F', H'⟩ X.kn F' { nx := fun _ => False, rt := Ed.rt, bk := fun _ => False, ct := fun _ => False } (match i with | none => Dn | some i => goneD Dn i) := fun i =>
    ⟨fun _ _ _ _ _ _ z => z.elim, fun dd v F2 H2 g2 dk2 r2 q => by
      have := k.rt dd v F2 H2 (g.trans g2) dk2 r2 q
      cases i <;> exact this, fun _ _ _ _ _ _ z => z.elim, fun _ _ _ _ _ _ z => z.elim⟩
  induction ok with
  | nil => exact ho w
  | @plain x cv gg b₀ suite np pos' hs l l' hg nd hm body r ih =>
    obtain ⟨b, hb, q⟩ := w
    refine ⟨b, hM _ _ _ _ _ hb rp.1 hm, fun e a na => ?_, fun e => ?_⟩
    · subst e
      have q1 := q a
      have R := rel_no (W := B.W) (K := X.kn) g.fh dk s
      rw [hl] at R
      exact ⟨F', H', er, ⟨g.fh, dk, rp⟩, _, F', _, R, q1, ends none⟩
    · subst e
      exact ih q
  | @named x n i cv gg b₀ suite np pos' hs l l' hg nd hm hi hll body r ih =>
    obtain ⟨b, hb, q⟩ := w
    refine ⟨b, hM _ _ _ _ _ hb rp.1 hm, fun e a na => ?_, fun e => ?_⟩
    · subst e
      have q1 := q a
      have R := (rel_no (W := B.W) (K := X.kn) g.fh dk s).set (i := i) (v := .ref a) (x := .opq (.ref a)) (.opq _)
      rw [hl] at R
      exact ⟨F', H', er, ⟨g.fh, dk, rp⟩, _, F', _, R, q1, ends (some i)⟩
    · subst e
      exact ih q
/-- try: body, except ..: clauses, each of which returns -/
@[simp] def gTry (M : Str → Str → Option Bool) (n : Nat) (R : Er → Prop) (tb : (Er → Prop) → GS) (l : List Cls3) (E : Ed) (σ : List SV) : Prop := tb (hdG M n R E.rt l) E σ
theorem sd_try {body : List Stmt} {h₀ : ExceptHandler} {hs : List ExceptHandler} {l : List Cls3} {l' : List Hdl} {tb : (Er → Prop) → GS} {pos : Pos} {R : Er → Prop} {E : XK} (hst : X.stack = X.env :: X.outer) (hf : X.env.frame = some X.env.locals) (hN : X.N.Nodup)
    (tk : Takes X (fun c o _ H => E c o H)) (hE : FinE B.W X.kn B.F B.H R E) (hM : ClsTab X.kn M)
    (hb : ∀ (pn : List (Addr × Obj)) (xe : Value → Shared → Prop) (E' : XK) (R' : Er → Prop), Passes (L2.CX X.prog X.w) (X.tr pn xe) E' → FinE B.W X.kn B.F B.H R' E' → PassesOwn (model X.prog X.w) X.A X.env xe → SDs B (X.tr pn xe) body (tb R'))
    (hh : ClausesOk B X (h₀ :: hs) l l') : SD B X (.Try body (h₀ :: hs) [] [] pos) (gTry M X.N.length R tb l) :=
  ⟨ps_imp (ps_try_h (Wout := fun c o _ H => E c o H) (tb := fun W Dn s H => ∃ R', FinE B.W X.kn B.F B.H R' (fun c o H => ∀ s : L2.St, s.length = X.N.length → W c o s H) ∧ LS B X.kn (tb R') Dn s H) hst hf hN tk
      (fun W pn xe tk' po => ⟨fun pins s σ H Dn I ⟨R', fin, q⟩ => (hb pn xe _ R' (fun pins σ H s e s' I c => tk' e s' (XE.of_call I (fun cls d H' h => h σ I.len) c)) fin po).run.run pins s σ H Dn I q⟩) hh.hdls)
    fun Dn s H ⟨σ, F, Ed, Rl, q, k⟩ => ⟨hdG M X.N.length R Ed.rt l, fun er w F' H' c o g dk rp s' hl =>
      hh.takes hM k g dk rp hl (fun ro => hE er ro F' H' c o g dk rp) w, σ, F, Ed, Rl, q, k⟩⟩
end
/-! ### within a clause: the error's field -/
/-- what the written part says of a class whose errors' fields are read -/
structure ErGet (K : PySem.W.Frag) (C : Addr) (fld : Str) : Prop where
  ga : PySem.W.findIn K (.ref C) "__getattribute__" = some (some (.builtin "BaseException.__getattribute__"))
  gg : PySem.W.findIn K (.ref C) "__getattr__" = some none
  exC : PySem.W.subIn K (.ref C) (.type "BaseException") = some true
  hdC : PySem.W.hasDictIn K C = true
  noN : PySem.W.findIn K (.ref C) fld = some none
/-- the classes nm of which known is true may be asked for fld -/
def GetTab (K : Kn) (known : Str → Bool) (fld : Str) : Prop := ∀ nm, known nm = true → ∃ C, K.mg nm = some (.ref C) ∧ ErGet K.K C fld
def gErF (known : Str → Bool) (fld : Str) (i : Nat) (er : Er) (a : Addr) (σ : List SV) (Q : D → Prop) : Prop := σ[i]? = some (.d (.opq (.ref a))) ∧ known er.nm = true ∧ ∃ x, er.fs.lookup fld = some x ∧ Q x
theorem repFs_look {K : Kn} {F : Hp} {f : Str} {x : D} : ∀ {vs : List (Str × V)} {ds : List (Str × D)}, RepFs K F vs ds → ds.lookup f = some x → ∃ v, vs.lookup f = some v ∧ Rep K F v x
  | _, _, .nil, h => by simp at h
  | (k, v) :: vs, (_, d) :: ds, .cons r t, h => by
    rw [List.lookup_cons] at h ⊢
    cases e : f == k with
    | true =>
      rw [e] at h
      cases h
      exact ⟨v, rfl, r⟩
    | false =>
      rw [e] at h
      exact repFs_look t h
section
variable {X : Cx} {W : WT} {F0 H0 : Hp} {cls : Value} {d : Option Addr} {er : Er} {a : Addr} {oe : Obj} {pn : List (Addr × Obj)} {known : Str → Bool} {fld x : Str} {i : Nat} {pos p : Pos}
theorem ed_erF (at_ : ErAt X.kn W F0 H0 cls d er) (zc : Zc cls d oe) (fields : ∃ vs, oe.data = .fields vs) (G : GetTab X.kn known fld) (he : PE (X.suite a ((a, oe) :: pn)) (.Name x p) (tVar i)) (hb : attributeBase (.Name x p) fld X.env (eval (.Name x p) X.env) = eval (.Name x p) X.env := by rfl) :
    ED ⟨W, F0, H0⟩ (X.suite a ((a, oe) :: pn)) (.Attribute (.Name x p) fld pos) (gErF known fld i er a) :=
  ⟨⟨fun pins s σ H Q I ⟨σd, F, Qd, R, ⟨sl, kn, y, hy, q⟩, k⟩ => by
    obtain ⟨C, gC, T⟩ := G _ kn
    obtain ⟨eC, hf, _⟩ := at_.rep
    have ec : cls = .ref C := Option.some.inj (eC.symm.trans gC)
    subst ec
    have ne : er.fs ≠ [] := fun z => by
      rw [z] at hy
      cases hy
    obtain ⟨dx, vs, rfl, at_dx, rf⟩ := hf ne
    obtain ⟨v, hv, rv⟩ := repFs_look rf hy
    obtain ⟨w0, hs, rw0⟩ := R.dat sl
    cases rw0
    have notW : ¬ InW W dx := xd_notW at_.dk at_dx
    refine attr_of hb (thn (he.run pins s σ H (fun w G1 => w = .ref a ∧ G1 = H) I ⟨_, hs, rfl, rfl⟩) fun u s1 ⟨w, H1, I1, rx, ew, eH⟩ => ?_)
    subst ew eH
    obtain rfl : u = Value.ref a := rx
    have st : H1 dx = some (.xd vs) := R.base.hh dx _ at_dx notW (by intro _ z; cases z)
    obtain ⟨held, _⟩ := I1.pin (a, oe) (List.mem_append_left _ List.mem_cons_self)
    obtain ⟨fv, hd⟩ := fields
    obtain ⟨mA, hns, hr⟩ := (show ObjOk X.prog X.w H1 s1.heap dx (.xd vs) from I1.hok dx _ st)
    obtain ⟨od, ho, hl⟩ := lookIn_ns hns
    obtain ⟨u, hu, ru⟩ := RelO.some_of (v := v) (o := mA fld) (by rw [← hv]; exact hr fld)
    have J : PySem.W.InstAt s1.heap a oe C (some od) := ⟨held, zc.1, by unfold PySem.W.notCls; rw [hd] <;> rfl, by rw [zc.2]; exact ho⟩
    exact HandSPX.exc_get I1.kIn J T.ga T.gg T.exC (PySem.W.findObj_own T.hdC T.noN rfl (by rw [hl, hu])) (handed_of ru) ⟨v, H1, I1.tok _, ru, k _ q F H1 v (Grow.refl R.ex) R.deck (rv.mono R.base.ff)⟩⟩⟩
end
end ND

/-! ND15: isinstance of a caught error that has a dict -/
namespace ND
open PySem PySem.Spec PySem.W PySem.Calls PyProof.Rows
section
variable {prog : Program} {w : World} {A : Around} {E : Value → Shared → Prop} {K : Frag} {x D : Addr} {ox : Obj} {od : Option Obj}
theorem find_class (T : L2.ExcC K D) : findObj K D od "__class__" = some (.bind (.builtin "getset_descriptor.__get__") (.builtin "object.__class__")) := by
  obtain ⟨cd, hc, _⟩ := any_some T.hd
  unfold findObj
  rw [hc, Option.bind_some, T.ha, Option.bind_some]
  simp [T.hn, T.ht]
theorem ask_class {s : Shared} {Q : Option Value → Shared → Prop} (T : L2.ExcC K D) (X : K.In s.heap) (J : InstAt s.heap x ox D od) (done : Q (some (.ref D)) { s with toks := s.toks + 1 }) : wpAny (model prog w) A (getAttr? (.ref x) "__class__") Q E s := by
  obtain ⟨hp, gs, dr, tk, os⟩ := s
  have isD := J.type (M := model prog w)
  have own := looks_findIn (M := model prog w) X T.hg
  have hook := looks_findIn (M := model prog w) X T.hk
  have got := looks_find (M := model prog w) X J (find_class T)
  have over : Looks (model prog w) hp (isInstance (.ref x) (.type "BaseException")) true := isD.andThen (looks_subIn X T.hs)
  have differs : (Value.builtin "BaseException.__getattribute__" == Value.builtin "object.__getattribute__") = false := by decide +kernel
  unfold getAttr? getAttrBy? getAttrBy
  refine wpAny_bind (wpAny_mkText (wpAny_bind (wpAny_attempt (wpAny_holding (wpAny_bind (isD.at (wpAny_bind (own.at ?_))))))))
  show wpAny _ _ (if (onTheHeap (Value.ref D) && Value.builtin "BaseException.__getattribute__" == Value.builtin "object.__getattribute__") = true then _ else _) _ _ _
  rw [differs, Bool.and_false, if_neg Bool.false_ne_true]
  unfold getAttrByItsOwn hookBefore
  refine wpAny_bind ?_
  rw [if_pos (show onTheHeap (Value.ref D) = true from rfl)]
  refine hook.at (wpAny_bind (wpAny_attempt (wpAny_holding ?_)))
  unfold callGetattribute
  rw [if_neg (show ¬ (false && onTheHeap (Value.builtin "BaseException.__getattribute__")) = true from Bool.false_ne_true)]
  unfold boundAndCalled
  rw [F.excAttr_ValueError.ga.bind (.ref x)]
  refine wpAny_bind (wpAny_pure ?_)
  show wpAny _ _ (call (.builtin "BaseException.__getattribute__") [.ref x, .str "__class__" tk]) _ _ _
  refine wpAny_call (codeAny_call_builtin F.excAttr_ValueError.ga.plain F.entry_bexc_ga (@check_slot (model prog w) _ _ ⟨hp, gs, dr, tk + 1, os⟩ "BaseException.__getattribute__" "BaseException" "__getattribute__" (.ref x) [.str "__class__" tk] [] _ (by decide +kernel) (by decide +kernel) over (F.args_bexc_ga (.ref x) (.str "__class__" tk)) ?_))
  unfold Builtin.«object.__getattribute__»
  refine wpAny_bind (wpAny_of_eq (a := ((Value.ref x : Value), [Value.str "__class__" tk])) (by first | rfl | (simp only [slotArgs]; rfl)) (wpAny_bind (wpAny_pure (wpAny_bind (isD.at (wpAny_bind (got.at ?_)))))))
  show wpAny _ _ (holding [Value.builtin "object.__class__"] (call (.builtin "getset_descriptor.__get__") [.builtin "object.__class__", .ref x, .ref D]) >>= ret) _ _ _
  refine wpAny_bind (wpAny_holding (wpAny_call (class_get (s := ⟨hp, gs, dr, tk + 1, os⟩) (ox := ox) (od := od) X J T.hm (wpAny_pure ?_))))
  show wpAny _ _ (handedOut (.ref D)) _ _ _
  rw [handedOut_of (v := .ref D) rfl]
  first
    | exact wpAny_pure (wpAny_pure done)
    | exact wpAny_pure done
    | exact wpAny_pure (wpAny_bind (wpAny_pure (wpAny_pure done)))
theorem kit_err (T : L2.ExcC K D) : KitX K (.ref x) (.ref D) (fun h => InstAt h x ox D od) := by
  obtain ⟨cd, hc, _⟩ := any_some T.hd
  unfold clsIn at hc
  split at hc
  · rename_i c' d' cd' sl' ho
    refine ⟨fun _ _ _ J => J.type, ?_, ?_, fun X J k => ask_class T X J k⟩
    · intro _ h X _ A' Q' E' s' k q
      unfold isType loadHead
      exact wpAny_bind (wpAny_loadPart (k _ _ (X _ _ ho)) (wpAny_pure q))
    · intro h tp dd its n sl X htp
      refine Bool.eq_false_iff.mpr fun q => ?_
      have e : D = tp := Value.ref.inj (beq_iff_eq.mp q)
      subst e
      have z := (X _ _ ho).symm.trans htp
      cases z
  · cases hc
end
end ND

namespace ND
open PySem PySem.Spec L2
open PyProof.Rows (envOfC)
/-- the classes nm of which known is true may be asked whether they are of the class c -/
def IsiTab (K : Kn) (M : Str → Str → Option Bool) : Prop := ∀ x y b, M x y = some b → ∃ C D, K.mg x = some (.ref C) ∧ K.mg y = some (.ref D) ∧ ExcC K.K C ∧ PySem.W.kitOne K.K (.ref C) (.ref D) = some b
/-- isinstance(e, c), e the caught error -/
def gIsE (M : Str → Str → Option Bool) (c : Str) (i : Nat) (er : Er) (a : Addr) (σ : List SV) (Q : D → Prop) : Prop := σ[i]? = some (.d (.opq (.ref a))) ∧ ∃ b, M er.nm c = some b ∧ Q (.bl b)
section
variable {X : Cx} {W : WT} {F0 H0 : Hp} {cls : Value} {d : Option Addr} {er : Er} {a : Addr} {oe : Obj} {pn : List (Addr × Obj)} {M : Str → Str → Option Bool} {x c : Str} {i : Nat} {pos p p2 p3 : Pos}
theorem ed_isE (at_ : ErAt X.kn W F0 H0 cls d er) (zc : Zc cls d oe) (fields : ∃ vs, oe.data = .fields vs) (T : IsiTab X.kn M) (hg : Gl X "isinstance") (hm : X.mg "isinstance" = none) (gc : Gl X c) (ndb : (c == ("__debug__" : Str)) = false)
    (he : PE (X.suite a ((a, oe) :: pn)) (.Name x p) (tVar i)) (hst : starEach [.Name x p, .Name c p2] X.env = (false, eval (.Name x p) X.env) :: starEach [.Name c p2] X.env := by rfl) (hst2 : starEach [.Name c p2] X.env = [(false, eval (.Name c p2) X.env)] := by rfl)
    (hpl : (backTo pos (starEach [.Name c p2] X.env)).any (·.1) = false := by rfl) :
    ED ⟨W, F0, H0⟩ (X.suite a ((a, oe) :: pn)) (.Call (.Name "isinstance" p3) [.Name x p, .Name c p2] [] pos) (gIsE M c i er a) :=
  ⟨⟨fun pins s σ H Q I ⟨σd, F, Qd, R, ⟨sl, b, hb, q⟩, k⟩ => by
    obtain ⟨C, D, gC, gD, ok, kit⟩ := T _ _ _ hb
    obtain ⟨eC, hf, hno⟩ := at_.rep
    have ec : cls = .ref C := Option.some.inj (eC.symm.trans gC)
    subst ec
    obtain ⟨w0, hs, rw0⟩ := R.dat sl
    cases rw0
    have nameC : PE (X.suite a ((a, oe) :: pn)) (.Name c p2) (tC (.ref D)) := pe_glob gc gD rfl ndb
    by_cases ne : er.fs = []
    · have hd0 : d = none := hno ne
      subst hd0
      have ans : CallR (X.suite a ((a, oe) :: pn)) (.builtin "isinstance") (fun us G P => us = [V.ref a, V.ref D] ∧ P (.bl b) G) := fun pins s σ G us ws P I vals ⟨eu, done⟩ => by
        subst eu
        cases vals with
        | cons r1 vals =>
          cases vals with
          | cons r2 vals =>
            cases vals
            cases r1
            cases r2
            obtain ⟨held, _⟩ := I.pin (a, oe) (List.mem_append_left _ List.mem_cons_self)
            obtain ⟨fv, hd⟩ := fields
            have J : PySem.W.InstAt s.heap a oe C none := ⟨held, zc.1, by unfold PySem.W.notCls; rw [hd] <;> rfl, by rw [zc.2]; trivial⟩
            exact PySem.W.kia_one (kit_err ok) I.kIn J kit (fun z => nomatch z) fun tk => ⟨.bl b, G, I.kept (t' := tk) fun _ _ z => z, rfl, done⟩
      exact (pe_callB ans hg hm nbIsi (pa_cons he (pa_cons nameC pa_nil hst2) hst) (by decide) (by decide) hst hpl).run pins s σ H Q I ⟨_, hs, rfl, k _ q F H _ (Grow.refl R.ex) R.deck (.bl b)⟩
    · obtain ⟨dx, vs, rfl, at_dx, rf⟩ := hf ne
      have ans : CallR (X.suite a ((a, oe) :: pn)) (.builtin "isinstance") (fun us G P => us = [V.ref a, V.ref D] ∧ G dx = some (.xd vs) ∧ P (.bl b) G) := fun pins s σ G us ws P I vals ⟨eu, st, done⟩ => by
        subst eu
        cases vals with
        | cons r1 vals =>
          cases vals with
          | cons r2 vals =>
            cases vals
            cases r1
            cases r2
            obtain ⟨held, _⟩ := I.pin (a, oe) (List.mem_append_left _ List.mem_cons_self)
            obtain ⟨fv, hd⟩ := fields
            obtain ⟨mA, hns, hr⟩ := (show ObjOk X.prog X.w G s.heap dx (.xd vs) from I.hok dx _ st)
            obtain ⟨od, ho, _⟩ := lookIn_ns hns
            have J : PySem.W.InstAt s.heap a oe C (some od) := ⟨held, zc.1, by unfold PySem.W.notCls; rw [hd] <;> rfl, by rw [zc.2]; exact ho⟩
            exact PySem.W.kia_one (kit_err ok) I.kIn J kit (fun z => nomatch z) fun tk => ⟨.bl b, G, I.kept (t' := tk) fun _ _ z => z, rfl, done⟩
      have st : H dx = some (.xd vs) := R.base.hh dx _ at_dx (xd_notW at_.dk at_dx) (by intro _ z; cases z)
      exact (pe_callB ans hg hm nbIsi (pa_cons he (pa_cons nameC pa_nil hst2) hst) (by decide) (by decide) hst hpl).run pins s σ H Q I ⟨_, hs, rfl, st, k _ q F H _ (Grow.refl R.ex) R.deck (.bl b)⟩⟩⟩
end
end ND

/-! ND16: more built-in functions: sum, all, any, tuple, list, sorted, str -/
namespace ND
open PySem PySem.Spec L2
open PyProof.Rows (envOfC)
section
variable {prog : Program} {w : World} {A : Around} {E : Value → Shared → Prop} {s : Shared} {l : Addr} {its : List Value} {ns : List Int} {Q : Value → Shared → Prop}
theorem sum_tup (quiet : A.handled = none) (isT : s.heap.IsTuple l its.toArray) (areInts : PyProof.Rows.IntsAre its ns)
    (done : ∀ h' tk t', (∀ b o, s.heap.get? b = some o → h'.get? b = some o) → Q (.int ns.sum t') { s with heap := h', toks := tk }) : wpAny (model prog w) A (call (.builtin "sum") [.ref l]) Q E s := by
  obtain ⟨xs, e⟩ := areInts.allInts.items
  have nums : numsOf (intItems xs).toList = ns := by rw [← e]; exact areInts.numsOf
  rw [nums_intItems] at nums
  rw [e] at isT
  have small : l < s.heap.objs.size := by
    obtain ⟨_, at_l, _⟩ := isT
    exact Heap.lt_size at_l
  refine call_sum_walkG (wpAny_pyIter_tuple isT ?_)
  refine ⟨s.heap.objs.size, [s.heap.objs.size, l], [s.heap.objs.size], _, _, _, numAt xs, rfl, Walks.tuple (A := A.in1) quiet _ l (Nat.ne_of_lt small) (intItems xs), ⟨⟨_, Heap.get?_push_size _ rfl, rfl, rfl⟩, isT.push _⟩, fun b hb => ?_, (fun _ _ => intItems_at), fun h' tk t' hk => ?_⟩
  · show b < (s.heap.push _).objs.size
    rw [Heap.size_push]
    rcases List.mem_cons.mp hb with rfl | hb
    · exact Nat.lt_succ_self _
    · rw [List.mem_singleton.mp hb]
      exact Nat.lt_succ_of_lt small
  · have z := done h' tk t' fun b o eb => hk b o (fun m => absurd (Heap.lt_size eb) (List.mem_singleton.mp m ▸ Nat.lt_irrefl _)) (Heap.get?_push_of_some _ eb)
    have total : preSum (numAt xs) (intItems xs).size = ns.sum := by
      rw [preSum_eq, List.take_of_length_le (by simp [intItems]), nums]
    rw [total]
    exact z
end
section
variable {B : Bs} {X : Cx}
theorem cr_sumT (hc : X.calm = true) : CallR X (.builtin "sum") (fun vs H Q => ∃ (a : Addr) (ns : List Int), vs = [V.ref a] ∧ SqT X.K H a (ns.map V.int) ∧ Q (.int ns.sum) H) := fun pins s σ H vs us Q I r ⟨a, ns, ev, st, q⟩ => by
  subst ev
  obtain ⟨its, rv, isT, _⟩ := I.tuple st
  rw [Vals.ref1 r]
  exact sum_tup (I.ok.hd hc) (show s.heap.IsTuple _ its.toArray from isT) rv.ints fun h' tk t' kept => ⟨.int _, H, I.kept kept, ⟨_, rfl⟩, q⟩
/-- the integers of a list of data -/
def intsOf : List D → Option (List Int)
  | [] => some []
  | .int i :: r => (intsOf r).map (i :: ·)
  | _ :: _ => none
theorem intsOf_map : ∀ {ds : List D} {ns : List Int}, intsOf ds = some ns → ds = ns.map D.int
  | [], ns, h => by
    cases h
    rfl
  | .int i :: r, ns, h => by
    simp only [intsOf, Option.map_eq_some_iff] at h
    obtain ⟨m, h1, rfl⟩ := h
    rw [intsOf_map h1]
    rfl
@[simp] theorem intsOf_ints : ∀ ns : List Int, intsOf (ns.map D.int) = some ns
  | [] => rfl
  | n :: ns => by simp [intsOf, intsOf_ints ns]
theorem reps_of_ints {K : Kn} {F : Hp} : ∀ {vs : List V} {ns : List Int}, Reps K F vs (ns.map D.int) → vs = ns.map V.int
  | _, [], .nil => rfl
  | _, n :: ns, .cons (.int _) t => by rw [List.map_cons, reps_of_ints t]
def sumD : List D → (D → Prop) → Prop
  | [.lst xs], Q => ∃ ns, intsOf xs = some ns ∧ Q (.int ns.sum)
  | [.tup xs], Q => ∃ ns, intsOf xs = some ns ∧ Q (.int ns.sum)
  | _, _ => False
theorem c_sum (hc : X.calm = true) : CallR X (.builtin "sum") (LCa B X.kn sumD) := callR_by fun vs H Q ⟨F, ds, Qd, e, dk, r, q, k⟩ => by
  unfold sumD at q
  split at q
  · obtain ⟨v, rfl, r1⟩ := rb1 r
    obtain ⟨ns, h1, h2⟩ := q
    obtain ⟨a, us, rfl, st, rs⟩ := r1.lst e
    rw [intsOf_map h1] at rs
    rw [reps_of_ints rs] at st
    exact ⟨_, cr_sum hc, a, ns, rfl, SqL.of st, k.here e dk h2 (.int _)⟩
  · obtain ⟨v, rfl, r1⟩ := rb1 r
    obtain ⟨ns, h1, h2⟩ := q
    obtain ⟨a, us, rfl, _, st, rs⟩ := r1.tup e
    rw [intsOf_map h1] at rs
    rw [reps_of_ints rs] at st
    exact ⟨_, cr_sumT hc, a, ns, rfl, st, k.here e dk h2 (.int _)⟩
  · exact q.elim
/-- the bools of a list of data -/
def blsOf : List D → Option (List Bool)
  | [] => some []
  | .bl i :: r => (blsOf r).map (i :: ·)
  | _ :: _ => none
theorem blsOf_map : ∀ {ds : List D} {ns : List Bool}, blsOf ds = some ns → ds = ns.map D.bl
  | [], ns, h => by
    cases h
    rfl
  | .bl i :: r, ns, h => by
    simp only [blsOf, Option.map_eq_some_iff] at h
    obtain ⟨m, h1, rfl⟩ := h
    rw [blsOf_map h1]
    rfl
@[simp] theorem blsOf_bls : ∀ ns : List Bool, blsOf (ns.map D.bl) = some ns
  | [] => rfl
  | n :: ns => by simp [blsOf, blsOf_bls ns]
theorem reps_of_bls {K : Kn} {F : Hp} : ∀ {vs : List V} {ns : List Bool}, Reps K F vs (ns.map D.bl) → vs = ns.map V.bl
  | _, [], .nil => rfl
  | _, n :: ns, .cons (.bl _) t => by rw [List.map_cons, reps_of_bls t]
def allD : List D → (D → Prop) → Prop
  | [.lst xs], Q => ∃ bs, blsOf xs = some bs ∧ Q (.bl (bs.all id))
  | _, _ => False
def anyD : List D → (D → Prop) → Prop
  | [.lst xs], Q => ∃ bs, blsOf xs = some bs ∧ Q (.bl (bs.any id))
  | _, _ => False
theorem c_all (hc : X.calm = true) : CallR X (.builtin "all") (LCa B X.kn allD) := callR_by fun vs H Q ⟨F, ds, Qd, e, dk, r, q, k⟩ => by
  unfold allD at q
  split at q
  · obtain ⟨v, rfl, r1⟩ := rb1 r
    obtain ⟨bs, h1, h2⟩ := q
    obtain ⟨a, us, rfl, st, rs⟩ := r1.lst e
    rw [blsOf_map h1] at rs
    rw [reps_of_bls rs] at st
    exact ⟨_, cr_all hc, a, bs, rfl, SqL.of st, k.here e dk h2 (.bl _)⟩
  · exact q.elim
theorem c_any (hc : X.calm = true) : CallR X (.builtin "any") (LCa B X.kn anyD) := callR_by fun vs H Q ⟨F, ds, Qd, e, dk, r, q, k⟩ => by
  unfold anyD at q
  split at q
  · obtain ⟨v, rfl, r1⟩ := rb1 r
    obtain ⟨bs, h1, h2⟩ := q
    obtain ⟨a, us, rfl, st, rs⟩ := r1.lst e
    rw [blsOf_map h1] at rs
    rw [reps_of_bls rs] at st
    exact ⟨_, cr_any hc, a, bs, rfl, SqL.of st, k.here e dk h2 (.bl _)⟩
  · exact q.elim
def tupleD : List D → (D → Prop) → Prop
  | [.lst xs], Q => Q (.tup xs)
  | [.tup xs], Q => Q (.tup xs)
  | _, _ => False
theorem c_tuple : CallR X (.type "tuple") (LCa B X.kn tupleD) := callR_by fun vs H Q ⟨F, ds, Qd, e, dk, r, q, k⟩ => by
  unfold tupleD at q
  split at q
  · obtain ⟨v, rfl, r1⟩ := rb1 r
    obtain ⟨a, us, rfl, st, rs⟩ := r1.lst e
    exact ⟨_, call_tuple_of, a, us, rfl, .inl ⟨SqL.of st, fun p hp => k.frz e dk q hp (.tup (SqT.of upd_same) (rs.mono (same_new (e.free hp))))⟩⟩
  · obtain ⟨v, rfl, r1⟩ := rb1 r
    obtain ⟨a, us, rfl, sf, st, rs⟩ := r1.tup e
    exact ⟨_, call_tuple_of, a, us, rfl, .inr ⟨st, k.here e dk q (.tup sf rs)⟩⟩
  · exact q.elim
/-- a built-in function that gives a new list -/
def LCf (B : Bs) (K : Kn) (g : List D → (List D → Prop) → Prop) : List V → Hp → VK → Prop := fun vs H Q => ∃ F ds Qd, Same F H ∧ DeckIn B.W F H ∧ RepBs B.W K F H vs ds ∧ g ds Qd ∧ FinF B K F H Qd Q
@[simp] def gBltF (g : List D → (List D → Prop) → Prop) (fs : GA) (σ : List SV) (Q : List D → Prop) : Prop := fs σ fun ds => g ds Q
theorem tcbF_of {s : L2.St} {H : Hp} {Q : VK} {g : List D → (List D → Prop) → Prop} {fs : GA} (h : LF B X.kn (gBltF g fs) s H Q) : tCB (LCf B X.kn g) (LAB B X.kn fs) s H Q := by
  obtain ⟨σ, F, Qd, R, q, k⟩ := h
  exact ⟨σ, F, _, R, q, fun ds qd F1 H1 vs g1 d1 r1 => ⟨F1, ds, Qd, g1.fh, d1, r1, qd, k.more g1⟩⟩
def listD : List D → (List D → Prop) → Prop
  | [.lst xs], Q => Q xs
  | [.tup xs], Q => Q xs
  | _, _ => False
theorem c_list : CallR X (.type "list") (LCf B X.kn listD) := callR_by fun vs H Q ⟨F, ds, Qd, e, dk, r, q, k⟩ => by
  unfold listD at q
  split at q
  · obtain ⟨v, rfl, r1⟩ := rb1 r
    obtain ⟨a, us, rfl, st, rs⟩ := r1.lst e
    exact ⟨_, call_list_of, a, us, rfl, .inl (SqL.of st), fun p hp => k.laid e dk q hp rs⟩
  · obtain ⟨v, rfl, r1⟩ := rb1 r
    obtain ⟨a, us, rfl, _, st, rs⟩ := r1.tup e
    exact ⟨_, call_list_of, a, us, rfl, .inr st, fun p hp => k.laid e dk q hp rs⟩
  · exact q.elim
variable {x : Str} {p pos : Pos} {e : Expr} {es : List Expr} {fs : GA} {T id : String} {g : List D → (List D → Prop) → Prop}
theorem fd_callTy (hc : CallR X (.type T) (LCf B X.kn g)) (hg : Gl X x) (hm : X.mg x = none) (hv : bootBuiltins x = some (.type T)) (ha : ABD B X (e :: es) fs) (hn : x ≠ "__name__" := by decide) (hdb : (x == ("__debug__" : Str)) = false := by decide)
    (he : starEach (e :: es) X.env = (false, eval e X.env) :: starEach es X.env := by rfl) (hpl : (backTo pos (starEach es X.env)).any (·.1) = false := by rfl) : FD B X (.Call (.Name x p) (e :: es) [] pos) (gBltF g fs) :=
  ⟨pe_imp (pe_callTy hc hg hm hv ha.run hn hdb he hpl) fun s H Q h => tcbF_of h⟩
theorem fd_callB (hc : CallR X (.builtin id) (LCf B X.kn g)) (hg : Gl X x) (hm : X.mg x = none) (hv : bootBuiltins x = some (.builtin id)) (ha : ABD B X (e :: es) fs) (hn : x ≠ "__name__" := by decide) (hdb : (x == ("__debug__" : Str)) = false := by decide)
    (he : starEach (e :: es) X.env = (false, eval e X.env) :: starEach es X.env := by rfl) (hpl : (backTo pos (starEach es X.env)).any (·.1) = false := by rfl) : FD B X (.Call (.Name x p) (e :: es) [] pos) (gBltF g fs) :=
  ⟨pe_imp (pe_callB hc hg hm hv ha.run hn hdb he hpl) fun s H Q h => tcbF_of h⟩
/-- a division that stays with the plain way: the divisor short, or the dividend short -/
def DivPl (i j : Int) : Prop := j.natAbs.log2 < 9000 ∨ i.natAbs.log2 < 13500
theorem DivPl.no {i j : Int} (h : DivPl i j) : Builtin.divisionGoesByPylong i j = false := by
  rcases h with h | h
  · exact PyProof.noPylong_of_log2 h
  · show (decide ((if j == 0 then 0 else j.natAbs.log2 / 30 + 1) > 300) && decide ((if i == 0 then 0 else i.natAbs.log2 / 30 + 1) > (if j == 0 then 0 else j.natAbs.log2 / 30 + 1) + 150)) = false
    have k : (if i == 0 then 0 else i.natAbs.log2 / 30 + 1) ≤ 450 := by
      split
      · omega
      · omega
    generalize (if j == 0 then 0 else j.natAbs.log2 / 30 + 1) = y
    by_cases hy : y > 300
    · rw [decide_eq_false (fun z => by omega : ¬ _ > y + 150), Bool.and_false]
    · rw [decide_eq_false hy, Bool.false_and]
/-- floor division by any divisor but zero -/
def fdivA : D → D → (D → Prop) → Prop
  | .int i, .int j, Q => j ≠ 0 ∧ DivPl i j ∧ Q (.int (i.fdiv j))
  | _, _, _ => False
@[simp] theorem fdivA_i (i j : Int) (Q : D → Prop) : fdivA (.int i) (.int j) Q = (j ≠ 0 ∧ DivPl i j ∧ Q (.int (i.fdiv j))) := rfl
theorem op_fdivA : OpR X (binaryOp .FloorDiv) (rI (fun i j => j ≠ 0 ∧ DivPl i j) fun i j => .int (i.fdiv j)) := opI fun i j _ _ _ _ _ hc q => PyProof.Rows.floordiv_int hc.1 q (.inl hc.2.no)
theorem o_fdivA : OpR X (binaryOp .FloorDiv) (LO2 B X.kn fdivA) := opR_by fun v u H Q ⟨F, x, y, Qd, e, dk, r1, r2, q, k⟩ => by
  unfold fdivA at q
  split at q
  · exact ⟨_, op_fdivA, _, _, r1.int, r2.int, ⟨q.1, q.2.1⟩, k.here e dk q.2.2 (.int _)⟩
  · exact q.elim
/-- an error's class nm, at C, without an __init__ of its own -/
structure Er0 (K : PySem.W.Frag) (mg : Str → Option Value) (nm : Str) (C : Addr) : Prop where
  gC : mg nm = some (.ref C)
  ini : PySem.W.excIn K C exT "Exception.__new__" = true
  kC : PySem.W.keepIn K (.ref C) = true
  exC : PySem.W.subIn K (.ref C) (.type "BaseException") = some true
  tyC : PySem.W.typeIn K (.ref C) = some (.type "type")
theorem pmk_er0 {nm : Str} {C : Addr} {p pos : Pos} (T : Er0 X.K X.mg nm C) (hg : Gl X nm) (ndb : (nm == ("__debug__" : Str)) = false) : PMk X (.Call (.Name nm p) [] [] pos) (fun _ H Q => Q (.ref C) none H) :=
  fun pins s σ H Q I h => wpAny_Call_Name_kw (ld_glob I hg T.gC (PySem.W.callWith_K0 I.kIn T.kC (by
    obtain ⟨bm, N, nm, qn, bs, hdct, sn, sub, ab, col, dd, k0, k1, k2, k3, k5, mN, hC, hN, hni, tail⟩ := exc_obj I.kIn T.ini
    exact wpAny_call_exc_subT F.excBase_Exception tail hC hN hni (fun h' e hm => mk_of I hm (raises_own T.exC T.tyC) h (I.hok.gone hm.new)) (Nat.zero_le _))) ndb)
/-- raise nm() -/
@[simp] def gRaise0 (nm : Str) (R : Er → Prop) (_ : Ed) (_ : List SV) : Prop := R ⟨nm, []⟩
theorem sd_raise0 {nm : Str} {C : Addr} {p pos pos2 : Pos} {R : Er → Prop} {E : XK} (hc : X.calm = true) (T : Er0 X.K X.mg nm C) (tk : Takes X (fun c o _ H => E c o H)) (hE : FinE B.W X.kn B.F B.H R E) (hg : Gl X nm := by rfl) (ndb : (nm == ("__debug__" : Str)) = false := by decide) :
    SD B X (.Raise (some (.Call (.Name nm p) [] [] pos)) none pos2) (gRaise0 nm R) :=
  ⟨ps_imp (ps_raise hc tk (pmk_er0 T hg ndb)) fun Dn s H ⟨σ, F, Ed, Rl, q, kk⟩ => hE _ q F H (.ref C) none Rl.base Rl.deck ⟨T.gC, fun z => absurd rfl z, fun _ => rfl⟩⟩
/-- sorted of integers -/
def sortedD : List D → (List D → Prop) → Prop
  | [.lst xs], Q => ∃ ns, intsOf xs = some ns ∧ ∀ ms : List Int, ms.Perm ns → ms.Pairwise (· ≤ ·) → Q (ms.map D.int)
  | _, _ => False
end
end ND

/-! ND17: targets within targets; a statement t = e for any such target -/
namespace ND
open PySem PySem.Spec L2
open PyProof.Rows (envOfC)
variable {B : Bs} {X : Cx} {e t : Expr} {ts : List Expr} {pos : Pos} {fa : GE}
abbrev GGs := List D → List SV → (List SV → Prop) → Prop
structure GDs (B : Bs) (X : Cx) (ts : List Expr) (n : Nat) (gt : GGs) : Prop where
  run : ∃ u, PGs X ts u ∧ ∀ ds vs σ s F H (Qd : List SV → Prop) (Q : L2.St → Hp → Prop), Rel B X.kn σ s F H → Reps X.kn F vs ds → ds.length = n → gt ds σ Qd → (∀ σ' s', Rel B X.kn σ' s' F H → Qd σ' → Q s' H) → u vs s H Q
@[simp] def ggNil (_ : List D) (σ : List SV) (Q : List SV → Prop) : Prop := Q σ
@[simp] def ggCons (g : GG) (h : GGs) : List D → List SV → (List SV → Prop) → Prop
  | d :: ds, σ, Q => g d σ fun σ' => h ds σ' Q
  | [], _, _ => False
theorem gds_nil : GDs B X [] 0 ggNil := ⟨_, pgs_nil, fun ds vs σ s F H Qd Q R r hl q k => by
  cases ds with
  | nil => cases r with | nil => exact ⟨rfl, k _ _ R q⟩
  | cons _ _ => cases hl⟩
theorem gds_cons {n : Nat} {g : GG} {h : GGs} (h1 : GD B X t g) (h2 : GDs B X ts n h) (hs : (assignEach (t :: ts) X.env).map (·.2) = assign t X.env :: (assignEach ts X.env).map (·.2) := by rfl) : GDs B X (t :: ts) (n + 1) (ggCons g h) := by
  obtain ⟨u1, p1, w1⟩ := h1.run
  obtain ⟨u2, p2, w2⟩ := h2.run
  refine ⟨_, pgs_cons p1 p2 hs, fun ds vs σ s F H Qd Q R r hl q k => ?_⟩
  cases r with
  | nil => cases hl
  | cons r1 r2 => exact ⟨_, _, rfl, w1 _ _ _ _ _ _ _ _ R r1 q fun σ' s' R' q' => w2 _ _ _ _ _ _ _ _ R' r2 (by simpa using hl) q' k⟩
@[simp] def ggT (n : Nat) (h : GGs) (d : D) (σ : List SV) (Q : List SV → Prop) : Prop := unT n d fun ds => h ds σ Q
theorem gd_tupG {n : Nat} {h : GGs} {kt : Nat} (hc : X.calm = true) (hn : GDs B X ts n h) (hl : (assignEach ts X.env).length = n := by rfl) (hst : (assignEach ts X.env).findIdx? (·.1) = none := by rfl) : GD B X (.Tuple ts kt pos) (ggT n h) := by
  obtain ⟨u, p, w⟩ := hn.run
  refine ⟨_, pg_tup hc p hl hst, fun d v σ s F H Qd Q R r ⟨ds, e, hl, q⟩ k => ?_⟩
  subst e
  cases r with
  | tup h r => exact ⟨_, _, rfl, same_t R.ex h, by rw [r.length]; exact hl, w _ _ _ _ _ _ _ _ R r hl q k⟩
@[simp] def gSetG (gt : GG) (fa : GE) (E : Ed) (σ : List SV) : Prop := fa σ fun d => gt d σ E.nx
theorem sd_setG {gt : GG} (ht : GD B X t gt) (ha : ED B X e fa) (hs : swapsWithSole [t] e pos.line X.env = pure false := by rfl) (hw : swappedStores [t] e X.env = pure none := by rfl)
    (h1 : (assignEach [t] X.env).map (·.2) = [assign t X.env] := by rfl) : SD B X (.Assign [t] e pos) (gSetG gt fa) := by
  obtain ⟨u, p, w⟩ := ht.run
  exact ⟨ps_imp (ps_asg ha.run p hs hw h1) fun Dn s H ⟨σ, F, E, R, q, k⟩ => ⟨σ, F, _, R, q, fun d qd F' H' v g dk r => w _ _ _ _ _ _ _ _ (R.grow g dk) r qd fun σ' s' R' q' => k.nx _ _ F' H' g.ff R' q'⟩⟩
/-! classes: what an except clause asks -/
theorem clsIn_exc {K : PySem.W.Frag} {C : Addr} {bm : List Value} {id : String} (q : PySem.W.excIn K C bm id = true) : (PySem.W.clsIn K C).isSome = true := by
  unfold PySem.W.excIn at q
  split at q
  · rename_i h
    unfold PySem.W.clsIn
    rw [h]
    rfl
  · cases q
theorem exm_of {K : PySem.W.Frag} {C D : Addr} {b : Bool} (hc : (PySem.W.clsIn K D).isSome = true) (hs : PySem.W.subIn K (.ref D) (.type "BaseException") = some true) (ht : PySem.W.typeIn K (.ref D) = some (.type "type")) (hr : PySem.W.subIn K (.ref C) (.ref D) = some b) : PySem.W.exmOne K (.ref C) (.ref D) = some b := by
  have h1 : PySem.W.kitCls K (.ref C) (.ref D) = some b := by
    show (if ((PySem.W.clsIn K D).isSome && PySem.W.typeIn K (.ref D) == some (.type "type")) = true then PySem.W.subIn K (.ref C) (.ref D) else none) = _
    have e : ((PySem.W.clsIn K D).isSome && PySem.W.typeIn K (.ref D) == some (.type "type")) = true := by rw [hc, ht, Bool.true_and, beq_iff_eq]
    rw [if_pos e]
    exact hr
  unfold PySem.W.exmOne
  rw [if_pos (by rw [hs]; exact beq_self_eq_true _)]
  exact h1
end ND

/-! ND18: repr of integers of up to 4300 digits -/
namespace ND
open PySem PySem.Spec L2
open PyProof.Rows (envOfC)
section
variable {prog : Program} {w : World} {A : Around} {E : Value → Shared → Prop} {s : Shared} {i : Int} {t : Tok} {h₀ : Heap}
/-- an integer's own __repr__ -/
theorem big_repr {Q : Value → Shared → Prop} (hn : s.heap.NoDigits) (hb : i.natAbs < 10 ^ 4300) (q : Q (.str (toString i) s.toks) { s with toks := s.toks + 1 }) :
    wpAny (model prog w) A (call (.builtin "int.__repr__") [.int i t]) Q E s := by
  refine wpAny_call_entry F.slot_int_repr (typeIs_int s i t) F.entry_int_repr ?_ (F.args_int_repr_1 _)
  unfold Builtin.«int.__repr__»
  show wpAny _ _ (do let r ← Builtin.overDigitLimit? i; _) _ _ s
  refine wpAny_bind (PyProof.Rows.overDigitLimit_any hn (fun hl => wpAny_bind (wpAny_mkStr (wpAny_pure ⟨_, rfl, q⟩) (int_text_fits10 hl))) fun hg => ?_)
  exact absurd hb (Nat.not_lt.mpr hg)
mutual
/-- data whose repr can be told: integers below 10^4300 -/
def bigOk : PyData → Bool
  | .int i => decide (i.natAbs < 10 ^ 4300)
  | .list xs | .tuple xs => bigAll xs
  | .dict kvs => bigKv kvs
  | _ => true
def bigAll : List PyData → Bool
  | [] => true
  | d :: ds => bigOk d && bigAll ds
def bigKv : List (PyData × PyData) → Bool
  | [] => true
  | (k, d) :: ds => bigOk k && bigOk d && bigKv ds
end
theorem bigKv_split : ∀ kvs : List (PyData × PyData), bigKv kvs = true → bigAll (kvs.map (·.1)) = true ∧ bigAll (kvs.map (·.2)) = true
  | [], _ => ⟨rfl, rfl⟩
  | (k, d) :: r, h => by
    simp only [bigKv, Bool.and_eq_true] at h
    obtain ⟨h1, h2⟩ := bigKv_split r h.2
    simp only [List.map_cons, bigAll, Bool.and_eq_true]
    exact ⟨⟨h.1.1, h1⟩, h.1.2, h2⟩
/-- no dict among as is sys.modules -/
def SafeD (h : Heap) (as : List Addr) : Prop := ∀ a ∈ as, ∀ (o : Obj) (es : Array DictEntry) (n : Nat), h.get? a = some o → o.data = .dict es n → (a == sysModules) = false
theorem SafeD.sub {h : Heap} {as bs : List Addr} (s : SafeD h as) (e : ∀ a ∈ bs, a ∈ as) : SafeD h bs := fun a m => s a (e a m)
theorem big_one (hn : h₀.NoDigits) (hb : i.natAbs < 10 ^ 4300) (as : List Addr) (n : Nat) : ReprK prog w as h₀ n (.int i t) (toString i) := fun base hz A g E s Q hg _ hu hk q => by
  have hz' : base ≤ sizeLine := by omega
  rw [pyReprUnder_leaf (v := .int i t) hz' (fun _ e => nomatch e)]
  unfold pyRepr
  exact wpAny_bind (wpAny_pyReprObj_slot (by omega) (typeIs_int s i t) F.slot_int_repr.toG (big_repr (hn.keeps hk) hb ⟨_, _, rfl, wpAny_pure (q s.heap _ fun _ _ e => e)⟩))
mutual
theorem big_reads (hn : h₀.NoDigits) : ∀ {v : Value} {d : PyData} {as : List Addr}, Reads h₀ v d as → SafeD h₀ as → bigOk d = true → d.shown.length ≤ sizeLine → ∃ bs, ReadAtMost h₀ d.depth bs ∧ ReprK prog w bs h₀ d.depth v d.shown
  | _, _, _, .int i t, _, o, _ => ⟨[], nofun, by simp only [PyData.shown]; exact big_one hn (by simp only [bigOk] at o; exact of_decide_eq_true o) _ _⟩
  | _, _, _, .none, _, _, z => ReprK.of_reads .none rfl (fun e => by simp [PyData.hasDict] at e) z
  | _, _, _, .bool b, _, _, z => ReprK.of_reads (.bool b) rfl (fun e => by simp [PyData.hasDict] at e) z
  | _, _, _, .str x t, _, _, z => ReprK.of_reads (.str x t) rfl (fun e => by simp [PyData.hasDict] at e) z
  | _, _, _, .dict (a := a) (es := es) (kvs := kvs) g1 g2 g3 g4 g5, sf, o, z => by
    have z1 : (dictText (PyData.shownKv kvs)).length ≤ sizeLine := by simpa only [PyData.shown] using z
    obtain ⟨o1, o2⟩ := bigKv_split kvs (by simpa only [bigOk] using o)
    obtain ⟨b1, l1, k1⟩ := bigs_reads hn g4 (sf.sub fun _ m => List.mem_cons_of_mem _ (List.mem_append_left _ m)) o1 fun t m => by
      obtain ⟨p, mp, lp⟩ := PyData.shownKv_key_le kvs t m
      exact Nat.le_trans lp (Nat.le_trans (dictText_mem_le mp) z1)
    obtain ⟨b2, l2, k2⟩ := bigs_reads hn g5 (sf.sub fun _ m => List.mem_cons_of_mem _ (List.mem_append_right _ m)) o2 fun t m => by
      obtain ⟨p, mp, lp⟩ := PyData.shownKv_val_le kvs t m
      exact Nat.le_trans lp (Nat.le_trans (dictText_mem_le mp) z1)
    have rd := Reads.dict g1 g2 g3 g4 g5
    have low : ReadAtMost h₀ (PyData.depthKv kvs) (b1 ++ b2) := (l1.mono (PyData.depthAll_keys_le kvs)).append (l2.mono (PyData.depthAll_vals_le kvs))
    refine ⟨_ :: (b1 ++ b2), .cons rd (by simp only [PyData.depth]; omega) low, ?_⟩
    simp only [PyData.depth, PyData.shown, PyData.shownKv_eq]
    exact .dict g1 g2 g3 (sf a (List.mem_append_left _ List.mem_cons_self) _ _ _ g1 g3) (not_mem_of_deeper rd (by simp only [PyData.depth]; omega) low)
      (.of_two es.toList _ _ (k1.more_le (fun _ => List.mem_append_left _) (PyData.depthAll_keys_le kvs)) (k2.more_le (fun _ => List.mem_append_right _) (PyData.depthAll_vals_le kvs)))
  | _, _, _, .tuple (xs := xs) g1 g2 g3 g4, sf, o, z => by
    have z1 : (tupleText (PyData.shownAll xs)).length ≤ sizeLine := by simpa only [PyData.shown] using z
    obtain ⟨bs, le, ks⟩ := bigs_reads hn g4 sf (by simpa [bigOk] using o) fun t m => Nat.le_trans (tupleText_mem_le m) z1
    have rd := Reads.tuple g1 g2 g3 g4
    refine ⟨_ :: bs, .cons rd (by simp only [PyData.depth]; omega) le, ?_⟩
    simp only [PyData.depth, PyData.shown]
    exact ReprK.tuple g1 g2 g3 (not_mem_of_deeper rd (by simp only [PyData.depth]; omega) le) ks
  | _, _, _, .list (vs := vs) (xs := xs) g1 g2 g3 g4, sf, o, z => by
    have z1 : (listText (PyData.shownAll xs)).length ≤ sizeLine := by simpa only [PyData.shown] using z
    obtain ⟨bs, le, ks⟩ := bigs_reads hn g4 (sf.sub fun _ => List.mem_cons_of_mem _) (by simpa [bigOk] using o) fun t m => Nat.le_trans (listText_mem_le m) z1
    have rd := Reads.list g1 g2 g3 g4
    refine ⟨_ :: bs, .cons rd (by simp only [PyData.depth]; omega) le, ?_⟩
    simp only [PyData.depth, PyData.shown]
    have nm := not_mem_of_deeper rd (by simp only [PyData.depth]; omega) le
    rcases vs with ⟨_ | ⟨y, ys⟩⟩
    · cases (show ReadsAll h₀ [] xs _ from g4)
      simp only [PyData.shownAll, listText_nil]
      exact .listEmpty g1 g2 g3
    · exact .list g1 g2 g3 nm (by simpa using ks.length_eq) fun j y e => ks.item j y (by simpa using e)
theorem bigs_reads (hn : h₀.NoDigits) : ∀ {vs : List Value} {ds : List PyData} {as : List Addr}, ReadsAll h₀ vs ds as → SafeD h₀ as → bigAll ds = true → (∀ t ∈ PyData.shownAll ds, t.length ≤ sizeLine) →
    ∃ bs, ReadAtMost h₀ (PyData.depthAll ds) bs ∧ ReprAllK prog w bs h₀ (PyData.depthAll ds) vs (PyData.shownAll ds)
  | _, _, _, .nil, _, _, _ => ⟨[], nofun, by simp only [PyData.shownAll]; exact .nil⟩
  | _, _, _, .cons (d := d) (ds := ds) r rs, sf, o, z => by
    simp only [bigAll, Bool.and_eq_true] at o
    simp only [PyData.shownAll, List.mem_cons, forall_eq_or_imp] at z
    obtain ⟨b1, l1, k1⟩ := big_reads hn r (sf.sub fun _ => List.mem_append_left _) o.1 z.1
    obtain ⟨b2, l2, k2⟩ := bigs_reads hn rs (sf.sub fun _ => List.mem_append_right _) o.2 z.2
    simp only [PyData.depthAll, PyData.shownAll]
    exact ⟨b1 ++ b2, (l1.mono (Nat.le_max_left _ _)).append (l2.mono (Nat.le_max_right _ _)),
      .cons ((k1.more fun b => List.mem_append_left _).level_le (Nat.le_max_left _ _)) (k2.more_le (fun b => List.mem_append_right _) (Nat.le_max_right _ _))⟩
end
def isDct : PyData → Bool
  | .dict _ => true
  | _ => false
/-- repr of a tuple or a list -/
theorem repr_big {a : Addr} {d : PyData} {as : List Addr} {Q : Value → Shared → Prop} (hn : s.heap.NoDigits) (r : Reads s.heap (.ref a) d as) (sf : SafeD s.heap as) (nd : isDct d = false) (o : bigOk d = true) (z : d.shown.length ≤ sizeLine) (hg : A.guards = some []) (hu : A.units + (d.depth + 1) < cLine)
    (q : ∀ h' u tk, (∀ b o, s.heap.get? b = some o → h'.get? b = some o) → Q (.str d.shown u) { s with heap := h', toks := tk }) : wpAny (model prog w) A (call (.builtin "repr") [.ref a]) Q E s := by
  have hk0 : ∀ b o, s.heap.get? b = some o → s.heap.get? b = some o := fun _ _ e => e
  cases r with
  | tuple g1 g2 g3 g4 =>
    rename_i ob vs n xs
    have z1 : (tupleText (PyData.shownAll xs)).length ≤ sizeLine := by simpa only [PyData.shown] using z
    obtain ⟨bs, le, ks⟩ := bigs_reads (prog := prog) (w := w) hn g4 sf (by simpa [bigOk] using o) fun t m => Nat.le_trans (tupleText_mem_le m) z1
    have nm := not_mem_of_deeper (.tuple g1 g2 g3 g4) (by simp only [PyData.depth]; omega) le
    simp only [PyData.depth] at hu
    simp only [PyData.shown] at q
    exact call_repr_slot (by omega) ⟨ob, g1, g2⟩ F.slot_tuple_repr (call_tuple_reprK g1 g2 g3 nm ks hg (fun b _ => Clear.nil b) (by show A.units + 1 + _ < cLine; omega) hk0 (fun h' u tk k => ⟨_, _, rfl, q h' u tk k⟩) z1)
  | list g1 g2 g3 g4 =>
    rename_i ob vs n xs bs₀
    have z1 : (listText (PyData.shownAll xs)).length ≤ sizeLine := by simpa only [PyData.shown] using z
    obtain ⟨bs, le, ks⟩ := bigs_reads (prog := prog) (w := w) hn g4 (sf.sub fun _ => List.mem_cons_of_mem _) (by simpa [bigOk] using o) fun t m => Nat.le_trans (listText_mem_le m) z1
    have nm := not_mem_of_deeper (.list g1 g2 g3 g4) (by simp only [PyData.depth]; omega) le
    simp only [PyData.depth] at hu
    simp only [PyData.shown] at q
    refine call_repr_slot (by omega) ⟨ob, g1, g2⟩ F.slot_list_repr.toG ?_
    rcases vs with ⟨_ | ⟨y, ys⟩⟩
    · cases (show ReadsAll s.heap [] xs _ from g4)
      simp only [PyData.shownAll, listText_nil] at q
      exact call_list_repr_empty ⟨ob, g1, g2⟩ g1 g3 ⟨_, _, rfl, q s.heap _ _ fun _ _ e => e⟩
    · exact call_list_reprK g1 g2 g3 nm (by simpa using ks.length_eq) (fun j y e => ks.item j y (by simpa using e)) hg (fun b _ => Clear.nil b) (by show A.units + 1 + _ < cLine; omega) hk0 (fun h' u tk k => ⟨_, _, rfl, q h' u tk k⟩) z1
  | dict => cases nd
end
section
variable {B : Bs} {X : Cx}
/-! data with dicts in it, no object within, at most n deep -/
mutual
def rp : Nat → D → Bool
  | _, .non => true
  | _, .bl _ => true
  | _, .int _ => true
  | _, .str x => PyData.strOk x
  | 0, .tup _ => false
  | 0, .lst _ => false
  | 0, .dic _ => false
  | n + 1, .tup xs => rps n xs
  | n + 1, .lst xs => rps n xs
  | n + 1, .dic xs => rpk n xs
  | _, .obj _ _ => false
  | _, .opq _ => false
def rps : Nat → List D → Bool
  | _, [] => true
  | n, x :: xs => rp n x && rps n xs
def rpk : Nat → List (Key × D) → Bool
  | _, [] => true
  | n, (.inl _, x) :: xs => rp n x && rpk n xs
  | n, (.inr k, x) :: xs => PyData.strOk k && rp n x && rpk n xs
end
mutual
theorem rp_depth : ∀ (n : Nat) (d : D), rp n d = true → (toPy d).depth ≤ n
  | n, .non, _ => by simp [toPy, PyData.depth]
  | n, .bl b, _ => by simp [toPy, PyData.depth]
  | n, .int b, _ => by simp [toPy, PyData.depth]
  | n, .str x, h => by simp [toPy, PyData.depth]
  | 0, .tup xs, h => by simp [rp] at h
  | 0, .lst xs, h => by simp [rp] at h
  | 0, .dic xs, h => by simp [rp] at h
  | n + 1, .tup xs, h => by
    have h2 := rps_depth n xs (by simpa only [rp] using h)
    simp only [toPy, PyData.depth]
    omega
  | n + 1, .lst xs, h => by
    have h2 := rps_depth n xs (by simpa only [rp] using h)
    simp only [toPy, PyData.depth]
    omega
  | n + 1, .dic xs, h => by
    have h2 := rpk_depth n xs (by simpa only [rp] using h)
    simp only [toPy, PyData.depth]
    omega
  | n, .obj _ _, h => by simp [rp] at h
  | n, .opq _, h => by simp [rp] at h
theorem rps_depth : ∀ (n : Nat) (d : List D), rps n d = true → PyData.depthAll (toPys d) ≤ n
  | n, [], _ => by simp [toPys, PyData.depthAll]
  | n, x :: xs, h => by
    simp only [rps, Bool.and_eq_true] at h
    have h1 := rp_depth n x h.1
    have h2 := rps_depth n xs h.2
    simp only [toPys, PyData.depthAll]
    omega
theorem rpk_depth : ∀ (n : Nat) (d : List (Key × D)), rpk n d = true → PyData.depthKv (toPyK d) ≤ n
  | n, [], _ => by simp [toPyK, PyData.depthKv]
  | n, (.inl k, x) :: xs, h => by
    simp only [rpk, Bool.and_eq_true] at h
    have h1 := rp_depth n x h.1
    have h2 := rpk_depth n xs h.2
    simp only [toPyK, PyData.depthKv, PyData.depth]
    omega
  | n, (.inr k, x) :: xs, h => by
    simp only [rpk, Bool.and_eq_true] at h
    have h1 := rp_depth n x h.1.2
    have h2 := rpk_depth n xs h.2
    simp only [toPyK, PyData.depthKv, PyData.depth]
    omega
end
theorem safe_seq {h : Heap} {a : Addr} {o : Obj} {vs : Array Value} {n : Nat} {as : List Addr} (ho : h.get? a = some o) (hd : o.data = .seq vs n) (s : SafeD h as) : SafeD h (a :: as) := fun b m ob es k e1 e2 => by
  rcases List.mem_cons.mp m with z | z
  · subst z
    rw [ho] at e1
    cases e1
    rw [hd] at e2
    cases e2
  · exact s b z ob es k e1 e2
theorem safe_app {h : Heap} {as bs : List Addr} (s : SafeD h as) (s2 : SafeD h bs) : SafeD h (as ++ bs) := fun b m => (List.mem_append.mp m).elim (s b) (s2 b)
theorem safe_nil {h : Heap} : SafeD h [] := fun _ m => (nomatch m)
section
variable {pins : List (Addr × Obj)} {σ : L2.St} {H F : Hp} {s : Shared}
mutual
theorem rep_reads (I : Inv X pins σ H s) (e : Same F H) : ∀ (n : Nat) (d : D) (v : V) (u : Value), rp n d = true → Rep X.kn F v d → RelV v u → ∃ as, Reads s.heap u (toPy d) as ∧ SafeD s.heap as
  | _, .non, _, _, _, h, r => by cases h; cases r; exact ⟨_, by simp only [toPy]; exact .none, safe_nil⟩
  | _, .bl _, _, _, _, h, r => by cases h; cases r; exact ⟨_, by simp only [toPy]; exact .bool _, safe_nil⟩
  | _, .int _, _, _, _, h, r => by cases h; obtain ⟨t, rfl⟩ := r; exact ⟨_, by simp only [toPy]; exact .int _ _, safe_nil⟩
  | _, .str _, _, _, _, h, r => by cases h; obtain ⟨t, rfl⟩ := r; exact ⟨_, by simp only [toPy]; exact .str _ _, safe_nil⟩
  | 0, .tup _, _, _, p, _, _ => by simp [rp] at p
  | 0, .lst _, _, _, p, _, _ => by simp [rp] at p
  | 0, .dic _, _, _, p, _, _ => by simp [rp] at p
  | n + 1, .tup ds, _, _, p, h, r => by
    cases h with
    | tup h rs =>
      cases r
      obtain ⟨its, rv, ⟨o, ho, hc, m, hd⟩, _⟩ := I.tuple (same_t e h)
      obtain ⟨as, hr, sf⟩ := reps_reads I e n ds _ its (by simpa only [rp] using p) rs rv
      exact ⟨_, by simp only [toPy]; exact .tuple ho hc hd hr, sf⟩
  | n + 1, .lst ds, _, _, p, h, r => by
    cases h with
    | lst h rs =>
      cases r
      obtain ⟨its, rv, ⟨o, m, ho, hc, _, hd⟩, _⟩ := I.list (SqL.of (e _ _ h))
      obtain ⟨as, hr, sf⟩ := reps_reads I e n ds _ its (by simpa only [rp] using p) rs rv
      exact ⟨_, by simp only [toPy]; exact .list ho hc hd hr, safe_seq ho hd sf⟩
  | n + 1, .dic ds, _, _, p, h, r => by
    cases h with
    | dic h rs =>
      cases r
      obtain ⟨_, hS, vs, kv, o, es, ep, ho, hx, hd, _, hp, _⟩ := I.hok _ _ (e _ _ h)
      obtain ⟨as, bs, h1, h2, s1, s2⟩ := repk_reads I e n ds _ vs es.toList (by simpa only [rp] using p) rs kv hp
      refine ⟨_, by simp only [toPy]; exact .dict ho hx.1 hd h1 h2, safe_app (fun b m ob es' k e1 e2 => ?_) s2⟩
      rcases List.mem_cons.mp m with z | z
      · subst z
        exact hS
      · exact s1 b z ob es' k e1 e2
  | _, .obj _ _, _, _, p, _, _ => by simp [rp] at p
  | _, .opq _, _, _, p, _, _ => by simp [rp] at p
theorem reps_reads (I : Inv X pins σ H s) (e : Same F H) : ∀ (n : Nat) (ds : List D) (vs : List V) (us : List Value), rps n ds = true → Reps X.kn F vs ds → Vals vs us → ∃ as, ReadsAll s.heap us (toPys ds) as ∧ SafeD s.heap as
  | _, [], _, _, _, h, r => by cases h; cases r; exact ⟨_, by simp only [toPys]; exact .nil, safe_nil⟩
  | n, d :: ds, _, _, p, h, r => by
    simp only [rps, Bool.and_eq_true] at p
    cases h with
    | cons h1 h2 =>
      cases r with
      | cons r1 r2 =>
        obtain ⟨as, q1, s1⟩ := rep_reads I e n d _ _ p.1 h1 r1
        obtain ⟨bs, q2, s2⟩ := reps_reads I e n ds _ _ p.2 h2 r2
        exact ⟨_, by simp only [toPys]; exact .cons q1 q2, safe_app s1 s2⟩
theorem repk_reads (I : Inv X pins σ H s) (e : Same F H) : ∀ (n : Nat) (ds : List (Key × D)) (vs : List (Key × V)) (us : List (Key × Value)) (es : List DictEntry), rpk n ds = true → RepKs X.kn F vs ds → KV vs us → Pairs (mixKind X.prog X.w) es us →
    ∃ as bs, ReadsAll s.heap (es.map (·.key)) ((toPyK ds).map (·.1)) as ∧ ReadsAll s.heap (es.map (·.val)) ((toPyK ds).map (·.2)) bs ∧ SafeD s.heap as ∧ SafeD s.heap bs
  | _, [], _, _, _, _, h, r, p => by
    cases h
    cases r
    cases p
    exact ⟨_, _, by simp only [toPyK, List.map_nil]; exact .nil, by simp only [toPyK, List.map_nil]; exact .nil, safe_nil, safe_nil⟩
  | n, (.inl k, d) :: ds, _, _, _, q, h, r, p => by
    simp only [rpk, Bool.and_eq_true] at q
    cases h with
    | cons h1 h2 =>
      cases r with
      | @cons _ b _ _ r1 r2 =>
        obtain ⟨bk, bv⟩ := b
        obtain ⟨rfl, rv⟩ := r1
        cases p with
        | cons p1 p2 p3 =>
          obtain ⟨t, ek⟩ := Value.isInt_shape (show Value.isInt k _ = true from p1)
          obtain ⟨as, bs, a1, a2, s1, s2⟩ := repk_reads I e n ds _ _ _ q.2 h2 r2 p3
          obtain ⟨cs, c1, s3⟩ := rep_reads I e n d _ _ q.1 h1 rv
          simp only [toPyK, List.map_cons]
          rw [ek, p2]
          exact ⟨_, _, .cons (.int k t) a1, .cons c1 a2, safe_app safe_nil s1, safe_app s3 s2⟩
  | n, (.inr k, d) :: ds, _, _, _, q, h, r, p => by
    simp only [rpk, Bool.and_eq_true] at q
    cases h with
    | cons h1 h2 =>
      cases r with
      | @cons _ b _ _ r1 r2 =>
        obtain ⟨bk, bv⟩ := b
        obtain ⟨rfl, rv⟩ := r1
        cases p with
        | cons p1 p2 p3 =>
          obtain ⟨t, ek⟩ := Value.isStrOf_shape (show Value.isStrOf k _ = true from p1)
          obtain ⟨as, bs, a1, a2, s1, s2⟩ := repk_reads I e n ds _ _ _ q.2 h2 r2 p3
          obtain ⟨cs, c1, s3⟩ := rep_reads I e n d _ _ q.1.2 h1 rv
          simp only [toPyK, List.map_cons]
          rw [ek, p2]
          exact ⟨_, _, .cons (.str k t) a1, .cons c1 a2, safe_app safe_nil s1, safe_app s3 s2⟩
end
theorem repB_reads (I : Inv X pins σ H s) (e : Same F H) {d : D} {v : V} {u : Value} {W : WT} (p : rp 64 d = true) (h : RepB W X.kn F H v d) (r : RelV v u) (nd : isDct (toPy d) = false) : ∃ as, Reads s.heap u (toPy d) as ∧ SafeD s.heap as := by
  rcases h with h | ⟨a, ds, vs, rfl, rfl, _, h, rs⟩ | ⟨a, ds, vs, rfl, rfl, _, h, rs⟩
  · exact rep_reads I e 64 d v u p h r
  · cases r
    obtain ⟨its, rv, ⟨o, m, ho, hc, _, hd⟩, _⟩ := I.list (SqL.of h)
    obtain ⟨as, hr, sf⟩ := reps_reads I e 63 ds _ its (by simpa only [rp] using p) rs rv
    exact ⟨_, by simp only [toPy]; exact .list ho hc hd hr, safe_seq ho hd sf⟩
  · simp only [toPy, isDct] at nd
    cases nd
end
/-- the written part says that no limit of digits is set -/
structure Dig (K : PySem.W.Frag) : Prop where
  ok : PySem.W.nsOkIn K cStatics = true
  no : PySem.W.nsIn K cStatics "sys.int_max_str_digits" = some none
theorem Dig.at {K : PySem.W.Frag} {h : Heap} (d : Dig K) (X : K.In h) : h.NoDigits := ⟨h.nsMap cStatics, .of_isNs (PySem.W.isNs_of_in X d.ok), PySem.W.nsMap_none_of_in X d.ok d.no⟩
def reprB : List D → (D → Prop) → Prop
  | [x], Q => rp 64 x = true ∧ isDct (toPy x) = false ∧ bigOk (toPy x) = true ∧ (toPy x).shown.length ≤ sizeLine ∧ Q (.str (toPy x).shown)
  | _, _ => False
@[simp] theorem reprB_x (x : D) (Q : D → Prop) : reprB [x] Q = (rp 64 x = true ∧ isDct (toPy x) = false ∧ bigOk (toPy x) = true ∧ (toPy x).shown.length ≤ sizeLine ∧ Q (.str (toPy x).shown)) := rfl
theorem c_reprB (hd : Dig X.K) (hG : X.A.guards = some []) (hu : X.A.units + 65 < cLine) : CallR X (.builtin "repr") (LCa B X.kn reprB) := fun pins s σ H vs us Q I rx ⟨F, ds, Qd, e, dk, r, q, k⟩ => by
  unfold reprB at q
  split at q
  · rename_i x
    obtain ⟨v, rfl, r1⟩ := rb1 r
    obtain ⟨h1, hnd, h2, h3, h4⟩ := q
    obtain ⟨u, rfl, ru⟩ := vals1 rx
    have fin : Q (.str (toPy x).shown) H := k.here e dk h4 (.str _)
    have sh := rp_depth 64 x h1
    have nd := hd.at I.kIn
    have refs : ∀ a, v = .ref a → wpAny (model X.prog X.w) X.A (call (.builtin "repr") [u]) (EP X pins σ Q) X.xe s := fun a hv => by
      subst hv
      cases ru
      obtain ⟨as, rd, sf⟩ := repB_reads I e h1 r1 rfl hnd
      exact repr_big nd rd sf hnd h2 h3 hG (by omega) fun h' u tk hk => ⟨.str _, H, I.kept (t' := tk) hk, ⟨_, rfl⟩, fin⟩
    cases x with
    | non => cases r1.non; cases ru; exact PySem.P.repr_of_none ⟨.str _, H, I.tok _, ⟨_, rfl⟩, by simpa [toPy, PyData.shown] using fin⟩
    | bl b => cases r1.bl; cases ru; exact PySem.P.repr_of_bool ⟨.str _, H, I.tok _, ⟨_, rfl⟩, by simpa [toPy, PyData.shown] using fin⟩
    | int i =>
      cases r1.int
      obtain ⟨t, rfl⟩ := ru
      refine call_repr_slot (by omega) (typeIs_int s i t) PySem.F.slot_int_repr.toG (big_repr nd (by simp only [toPy, bigOk] at h2; exact of_decide_eq_true h2) ⟨_, _, rfl, .str _, H, I.tok _, ⟨_, rfl⟩, ?_⟩)
      simpa [toPy, PyData.shown] using fin
    | str i =>
      cases r1.str
      obtain ⟨t, rfl⟩ := ru
      exact PySem.P.repr_of_str ⟨.str _, H, I.tok _, ⟨_, rfl⟩, by simpa [toPy, PyData.shown] using fin⟩ (by simpa [toPy, PyData.shown] using h3)
    | tup xs => obtain ⟨a, us, hv, _⟩ := r1.tup e; exact refs a hv
    | lst xs => obtain ⟨a, us, hv, _⟩ := r1.lst e; exact refs a hv
    | dic _ => simp only [toPy, isDct] at hnd; cases hnd
    | obj _ _ => simp [rp] at h1
    | opq _ => simp [rp] at h1
  · exact q.elim
end
end ND

/-! ND19: int of a text of up to 4300 signs -/
namespace ND
open PySem PySem.Spec L2
open PyProof.Rows (envOfC)
section
open PySem.Calls PySem.NumText PySem.W.KIN PySem.W
theorem wp_max {M : Model} {A : Around} {E : Value → Shared → Prop} {s : Shared} {Q : Nat → Shared → Prop} (hn : s.heap.NoDigits) (h : Q 4300 s) : wpAny M A Builtin.intMaxStrDigits Q E s := by
  obtain ⟨mc, hns, hnone⟩ := hn
  unfold Builtin.intMaxStrDigits
  refine wpAny_bind (wpAny_nsGet hns ?_)
  rw [hnone]
  exact wpAny_pure h
theorem wp_text4 {M : Model} {A : Around} {E : Value → Shared → Prop} {s : Shared} {Q : Value → Shared → Prop} {v : Value} {text : List Nat} {n : Int} (hn : s.heap.NoDigits)
    (hs : ¬ (text.takeWhile (· != 0)).length ≤ 640) (hr : (int_private% "readNumeral") 4300 10 (text.takeWhile (· != 0)) = (int_private% "Numeral.value") n)
    (ha : ((text.takeWhile (· != 0)).length == text.length) = true) (h : Q (.int n s.toks) { s with toks := s.toks + 1 }) :
    wpAny M A ((int_private% "intFromText") v text 10) Q E s := by
  obtain ⟨hp, g, d, tk, os⟩ := s
  repeat (any_goals (first
    | assumption
    | (with_reducible refine wpAny_ite_false (decide_eq_false hs) ?_)
    | (with_reducible refine wpAny_ite_true (decide_eq_true ha) ?_)
    | (with_reducible refine wp_max hn ?_)
    | wp_step))
  all_goals (try rw [hr])
  all_goals (try dsimp only)
  repeat (any_goals (first
    | assumption
    | (with_reducible refine wpAny_ite_true (decide_eq_true ha) ?_)
    | wp_step))
theorem read4 {x : Str} {n : Int} (hx : x.length ≤ sizeLine) (hn : PySem.intText? x = some n) : (int_private% "readNumeral") 4300 10 (numSeenOf x) = (int_private% "Numeral.value") n ∧ ((numSeenOf x).length == (numTextOf x).length) = true := by
  rcases read4300 x hx with ⟨m, h1, h2, h3⟩ | ⟨h1, _⟩
  · cases hn.symm.trans h1
    exact ⟨h3, h2⟩
  · cases hn.symm.trans h1
def s4 (n : Int) : Spec := fun _ R s => s.heap.NoDigits ∧ R (.ok (.ret (.int n s.toks))) { s with toks := s.toks + 1 }
theorem meets4 {x : PySem.Str} {u : Tok} {n : Int} (hl : ¬ (numSeenOf x).length ≤ 640) (hx : x.length ≤ sizeLine) (hn : PySem.intText? x = some n) : Meets (Builtin.«int.__new__» ⟨[.type "int", .str x u], []⟩) (s4 n) := by
  rintro prog w A R s ⟨hd, h⟩
  refine wpAny_mono (Q := fun fin s' => ∃ v, fin = .done (.ret v) ∧ R (.ok (.ret v)) s') ?_ (fun fin s' h' => by obtain ⟨v, rfl, hv⟩ := h'; exact hv) fun _ _ e => e
  obtain ⟨hp, g, d, tk, os⟩ := s
  have f1 := PySem.F.conv_sub_int
  have f2 := PySem.F.madeHere_int
  have f3 := str_int
  have f4 := str_idx
  have f5 := str_trunc
  have f6 : typeOf (.str x u) = pure (.type "str") := rfl
  have hk := Hid.mk (And.intro hl (read4 hx hn))
  clear hl hn hx
  repeat (any_goals (first
    | assumption
    | ((with_reducible show wpAny _ _ ((int_private% "intFromText") _ _ _) _ _ _); refine wp_text4 hd hk.out.1 hk.out.2.1 hk.out.2.2 ?_)
    | wp_step))
  all_goals first | exact ⟨_, rfl, h⟩ | skip
theorem read1 {x : Str} {n : Int} (hs : (numSeenOf x).length ≤ 640) (hn : PySem.intText? x = some n) : (int_private% "readNumeral") 0 10 (numSeenOf x) = (int_private% "Numeral.value") n ∧ ((numSeenOf x).length == (numTextOf x).length) = true := by
  rcases read0 x hs with ⟨m, h1, h2, h3⟩ | ⟨h1, _⟩
  · cases hn.symm.trans h1
    exact ⟨h3, h2⟩
  · cases hn.symm.trans h1
theorem meets1 {x : PySem.Str} {u : Tok} {n : Int} (hl : (numSeenOf x).length ≤ 640) (hn : PySem.intText? x = some n) : Meets (Builtin.«int.__new__» ⟨[.type "int", .str x u], []⟩) (s4 n) := by
  rintro prog w A R s ⟨hd, h⟩
  refine wpAny_mono (Q := fun fin s' => ∃ v, fin = .done (.ret v) ∧ R (.ok (.ret v)) s') ?_ (fun fin s' h' => by obtain ⟨v, rfl, hv⟩ := h'; exact hv) fun _ _ e => e
  obtain ⟨hp, g, d, tk, os⟩ := s
  have f1 := PySem.F.conv_sub_int
  have f2 := PySem.F.madeHere_int
  have f3 := str_int
  have f4 := str_idx
  have f5 := str_trunc
  have f6 : typeOf (.str x u) = pure (.type "str") := rfl
  have hk := Hid.mk (And.intro hl (read1 hl hn))
  clear hl hn
  repeat (any_goals (first
    | assumption
    | ((with_reducible show wpAny _ _ ((int_private% "intFromText") _ _ _) _ _ _); refine wp_text hk.out.1 hk.out.2.1 hk.out.2.2 ?_)
    | wp_step))
  all_goals first | exact ⟨_, rfl, h⟩ | skip
theorem call_text4 {prog : Program} {w : World} {A : Around} {E : Value → Shared → Prop} {s : Shared} {Q : Value → Shared → Prop} {x : PySem.Str} {t : Tok} {n : Int} (hd : s.heap.NoDigits) (hx : x.length ≤ sizeLine) (hn : PySem.intText? x = some n)
    (h : Q (.int n s.toks) { s with toks := s.toks + 1 }) : wpAny (model prog w) A (call (.type "int") [.str x t]) Q E s := by
  by_cases hl : (numSeenOf x).length ≤ 640
  · exact call_int_1 (meets1 hl hn) ⟨hd, rfl, h⟩
  · exact call_int_1 (meets4 hl hx hn) ⟨hd, rfl, h⟩
end
section
variable {B : Bs} {X : Cx}
/-- int(..), of texts of any length that is allowed -/
def intB : List D → (D → Prop) → Prop
  | [.int i], Q => Q (.int i)
  | [.bl b], Q => Q (.int (if b = true then 1 else 0))
  | [.str x], Q => ∃ n, intText? x = some n ∧ x.length ≤ sizeLine ∧ Q (.int n)
  | _, _ => False
@[simp] theorem intB_i (i : Int) (Q : D → Prop) : intB [.int i] Q = Q (.int i) := rfl
@[simp] theorem intB_b (i : Bool) (Q : D → Prop) : intB [.bl i] Q = Q (.int (if i = true then 1 else 0)) := rfl
@[simp] theorem intB_s (x : Str) (Q : D → Prop) : intB [.str x] Q = ∃ n, intText? x = some n ∧ x.length ≤ sizeLine ∧ Q (.int n) := rfl
theorem c_intB (hd : Dig X.K) : CallR X (.type "int") (LCa B X.kn intB) := fun pins s σ H vs us Q I rx ⟨F, ds, Qd, e, dk, r, q, k⟩ => by
  unfold intB at q
  split at q
  · exact c_int pins s σ H vs us Q I rx ⟨F, _, Qd, e, dk, r, q, k⟩
  · exact c_int pins s σ H vs us Q I rx ⟨F, _, Qd, e, dk, r, q, k⟩
  · obtain ⟨v, rfl, r1⟩ := rb1 r
    obtain ⟨n, h1, h2, h3⟩ := q
    cases r1.str
    obtain ⟨u, rfl, t, rfl⟩ := vals1 rx
    exact call_text4 (hd.at I.kIn) h2 h1 ⟨.int n, H, I.tok _, ⟨_, rfl⟩, k.here e dk h3 (.int _)⟩
  · exact q.elim
end
end ND

/-! ND20: how long a repr is -/
namespace ND
open PySem PySem.Spec L2
mutual
/-- a bound of the length of the repr -/
def rsz : D → Nat
  | .non => 5
  | .bl _ => 5
  | .int _ => 4301
  | .str x => 10 * x.cps.size + 2
  | .tup xs => rszs xs + 3
  | .lst xs => rszs xs + 3
  | .dic xs => rszk xs + 3
  | _ => 5
def rszs : List D → Nat
  | [] => 0
  | x :: xs => rsz x + 2 + rszs xs
def rszk : List (Key × D) → Nat
  | [] => 0
  | (.inl _, x) :: xs => 4301 + rsz x + 4 + rszk xs
  | (.inr k, x) :: xs => 10 * k.cps.size + 2 + rsz x + 4 + rszk xs
end
theorem toPys_len : ∀ xs : List D, (PyData.shownAll (toPys xs)).length = xs.length
  | [] => by simp [toPys, PyData.shownAll]
  | x :: xs => by simp [toPys, PyData.shownAll, toPys_len xs]
theorem toPyK_len : ∀ xs : List (Key × D), (PyData.shownKv (toPyK xs)).length = xs.length
  | [] => by simp [toPyK, PyData.shownKv]
  | (.inl _, x) :: xs => by simp [toPyK, PyData.shownKv, toPyK_len xs]
  | (.inr _, x) :: xs => by simp [toPyK, PyData.shownKv, toPyK_len xs]
theorem str_rsz {x : Str} (h1 : PyData.strOk x = true) : (PyData.shown (.str x)).length ≤ 10 * x.cps.size + 2 := by
  have hx : ∀ c ∈ x.cps.toList, c < 16 ^ 8 := fun c hc => by
    unfold PyData.strOk at h1
    rw [← Array.all_toList, List.all_eq_true] at h1
    have := of_decide_eq_true (h1 c hc)
    omega
  simp only [PyData.shown]
  exact StrLaws.reprText_len x hx
theorem int_rsz {i : Int} (h : bigOk (.int i) = true) : (PyData.shown (.int i)).length ≤ 4301 := by
  simp only [bigOk, decide_eq_true_eq] at h
  have e := int_text_length_le10 (k := 4300) (by decide) h
  simp only [PyData.shown]
  rw [ofString_length]
  exact e
mutual
theorem shown_rsz : ∀ (n : Nat) (d : D), rp n d = true → bigOk (toPy d) = true → (toPy d).shown.length ≤ rsz d
  | _, .non, _, _ => by show (PyData.shown .none).length ≤ 5; decide
  | _, .bl b, _, _ => by cases b <;> decide
  | _, .int i, _, h => by
    simp only [toPy, rsz] at h ⊢
    exact int_rsz h
  | n, .str x, h, _ => by
    simp only [toPy, rsz]
    exact str_rsz (by cases n <;> simpa only [rp] using h)
  | 0, .tup xs, h, _ => by simp [rp] at h
  | 0, .lst xs, h, _ => by simp [rp] at h
  | 0, .dic xs, h, _ => by simp [rp] at h
  | n + 1, .tup xs, h, h' => by
    have e := shownAll_rsz n xs (by simpa only [rp] using h) (by simpa only [toPy, bigOk] using h')
    have e2 := tupleText_len_le (PyData.shownAll (toPys xs))
    rw [toPys_len] at e2
    simp only [toPy, PyData.shown, rsz]
    omega
  | n + 1, .lst xs, h, h' => by
    have e := shownAll_rsz n xs (by simpa only [rp] using h) (by simpa only [toPy, bigOk] using h')
    have e2 := listText_len_le (PyData.shownAll (toPys xs))
    rw [toPys_len] at e2
    simp only [toPy, PyData.shown, rsz]
    omega
  | n + 1, .dic xs, h, h' => by
    have e := shownKv_rsz n xs (by simpa only [rp] using h) (by simpa only [toPy, bigOk] using h')
    have e2 := dictText_len_le (PyData.shownKv (toPyK xs))
    rw [toPyK_len] at e2
    simp only [toPy, PyData.shown, rsz]
    omega
  | n, .obj _ _, h, _ => by simp [rp] at h
  | n, .opq _, h, _ => by simp [rp] at h
theorem shownAll_rsz : ∀ (n : Nat) (xs : List D), rps n xs = true → bigAll (toPys xs) = true → ((PyData.shownAll (toPys xs)).map (·.length)).sum + 2 * xs.length ≤ rszs xs
  | _, [], _, _ => by simp [toPys, PyData.shownAll, rszs]
  | n, x :: xs, h, h' => by
    simp only [rps, Bool.and_eq_true] at h
    simp only [toPys, bigAll, Bool.and_eq_true] at h'
    have e1 := shown_rsz n x h.1 h'.1
    have e2 := shownAll_rsz n xs h.2 h'.2
    simp only [toPys, PyData.shownAll, rszs, List.map_cons, List.sum_cons, List.length_cons]
    omega
theorem shownKv_rsz : ∀ (n : Nat) (xs : List (Key × D)), rpk n xs = true → bigKv (toPyK xs) = true → ((PyData.shownKv (toPyK xs)).map (·.length)).sum + 2 * xs.length ≤ rszk xs
  | _, [], _, _ => by simp [toPyK, PyData.shownKv, rszk]
  | n, (.inl k, x) :: xs, h, h' => by
    simp only [rpk, Bool.and_eq_true] at h
    simp only [toPyK, bigKv, Bool.and_eq_true] at h'
    have e0 := int_rsz h'.1.1
    have e1 := shown_rsz n x h.1 h'.1.2
    have e2 := shownKv_rsz n xs h.2 h'.2
    have e3 : ((PyData.shown (.int k)) ++ ": " ++ (toPy x).shown).length = (PyData.shown (.int k)).length + 2 + (toPy x).shown.length := by
      rw [strLen_append, strLen_append]; rfl
    simp only [toPyK, PyData.shownKv, rszk, List.map_cons, List.sum_cons, List.length_cons]
    omega
  | n, (.inr k, x) :: xs, h, h' => by
    simp only [rpk, Bool.and_eq_true] at h
    simp only [toPyK, bigKv, Bool.and_eq_true] at h'
    have e0 := str_rsz h.1.1
    have e1 := shown_rsz n x h.1.2 h'.1.2
    have e2 := shownKv_rsz n xs h.2 h'.2
    have e3 : ((PyData.shown (.str k)) ++ ": " ++ (toPy x).shown).length = (PyData.shown (.str k)).length + 2 + (toPy x).shown.length := by
      rw [strLen_append, strLen_append]; rfl
    simp only [toPyK, PyData.shownKv, rszk, List.map_cons, List.sum_cons, List.length_cons]
    omega
end
/-- what can be shown -/
def Rok (x : D) : Prop := rp 64 x = true ∧ isDct (toPy x) = false ∧ bigOk (toPy x) = true ∧ rsz x ≤ 16000000
theorem Rok.len {x : D} (h : Rok x) : (toPy x).shown.length ≤ sizeLine := Nat.le_trans (shown_rsz _ _ h.1 h.2.2.1) (Nat.le_trans h.2.2.2 (by decide))
theorem Rok.reprB {x : D} {Q : D → Prop} (h : Rok x) (q : Q (.str (toPy x).shown)) : reprB [x] Q := by
  rw [reprB_x]
  exact ⟨h.1, h.2.1, h.2.2.1, h.len, q⟩
/-- a for by what holds before each turn -/
theorem forG_inv {gt : GG} {g : GS} {E : Ed} (P : List D → List SV → Prop) (hend : ∀ σ, P [] σ → E.nx σ)
    (step : ∀ x xs σ, P (x :: xs) σ → ∀ E' : Ed, E'.rt = E.rt → E'.bk = E.nx → (∀ σ2, P xs σ2 → E'.nx σ2) → (∀ σ2, P xs σ2 → E'.ct σ2) → gt x σ fun σ' => g E' σ') : ∀ xs σ, P xs σ → forG gt g xs E σ
  | [], σ, h => hend σ h
  | x :: xs, σ, h => step x xs σ h _ rfl rfl (fun σ2 h2 => forG_inv P hend step xs σ2 h2) fun σ2 h2 => forG_inv P hend step xs σ2 h2
end ND

/-! ND21: x(lambda: ..), where x calls what it gets -/
namespace ND
open PySem PySem.Spec L2
open PyProof.Rows (envOfC)
/-- what running the lambda asks: of an error, of the answer -/
abbrev Act := (Er → Prop) → (D → Prop) → Prop
/-- what a def promises that gets a lambda -/
abbrev ASp := WD → Act → (D → Prop) → Prop
def svD : SV → SV
  | .d x => .d x
  | _ => .no
@[simp] theorem svD_d (x : D) : svD (.d x) = .d x := rfl
@[simp] theorem svD_no : svD .no = .no := rfl
@[simp] theorem svD_ol (xs : List D) : svD (.ol xs) = .no := rfl
/-- a state without what is one's own -/
@[simp] def noOwn (σ : List SV) : List SV := σ.map svD
theorem rel_noOwn {B : Bs} {K : Kn} {σ : List SV} {s : L2.St} {F H : Hp} (R : Rel B K σ s F H) : Rel ⟨B.W, F, H⟩ K (noOwn σ) s F H :=
  ⟨Grow.refl R.ex, R.deck, R.deck, by rw [noOwn, List.length_map]; exact R.len, fun _ => none, ⟨fun _ _ _ z => (nomatch z), fun _ _ z => (nomatch z)⟩, fun i x v e1 e2 => by
    rw [noOwn, List.getElem?_map] at e1
    cases h : σ[i]? with
    | none =>
      rw [h] at e1
      cases e1
    | some y =>
      rw [h] at e1
      cases e1
      cases y with
      | d z =>
        obtain ⟨u, h1, h2⟩ := R.dat h
        rw [h1] at e2
        cases e2
        exact h2
      | no => exact True.intro
      | ol xs => exact True.intro
      | od ks => exact True.intro
      | oo p n fs => exact True.intro⟩
theorem ext_notW {W : WT} {F H : Hp} {c : Addr} {φ : Heap → Prop} (dk : DeckIn W F H) (e : H c = some (.ext φ)) : ¬ InW W c := fun z => by
  rcases z with ⟨pp, ep, o⟩ | ⟨x, hx, rfl⟩
  · obtain ⟨ns, m, n, h1, h2, _⟩ := (dk.dk _ ep).st
    rcases o with o | o <;> subst o
    · rw [h1] at e
      cases e
    · rw [h2] at e
      cases e
  · obtain ⟨ps, h1, _⟩ := dk.tb x hx
    rw [h1] at e
    cases e
def ActOk (W : WT) (K : Kn) (F H : Hp) (tl : XK → Hp → VK → Prop) (act : Act) : Prop :=
  ∀ F' H' R Qd E Q, Grow W F H F' H' → DeckIn W F' H' → act R Qd → Fin ⟨W, F', H'⟩ K F' H' Qd Q → FinE W K F' H' R E → tl E H' Q
def TTg (K : Kn) (T : List (Addr × Str)) (sp : ASp) : (XK → Hp → VK → Prop) → Hp → VK → Prop := fun tl H Q =>
  ∃ (W : WD) (F : Hp) (act : Act) (Qd : D → Prop), Same F H ∧ DeckIn ⟨W, T⟩ F H ∧ sp W act Qd ∧ ActOk ⟨W, T⟩ K F H tl act ∧ Fin ⟨⟨W, T⟩, F, H⟩ K F H Qd Q
/-- the lambda at f is called: it stands in the first slot -/
def gAct (f : Addr) (act : Act) (R : Er → Prop) (σ : List SV) (Q : D → Prop) : Prop := σ[0]? = some (.d (.opq (.ref f))) ∧ act R Q
@[simp] theorem gAct_x (f g : Addr) (act : Act) (R : Er → Prop) (σ : List SV) (Q : D → Prop) : gAct f act R (.d (.opq (.ref g)) :: σ) Q = (g = f ∧ act R Q) := by
  simp [gAct]
theorem ed_act {Z : Cx} {W : WT} {F H : Hp} {f c' : Addr} {q a : Str} {tl : XK → Hp → VK → Prop} {act : Act} {E : XK} {R : Er → Prop} {p1 p2 : Pos} (hc : H c' = some (LamX.CodeO c' q)) (ok : ActOk W Z.kn F H tl act) (hE : FinE W Z.kn F H R E)
    (h : PE Z (.Call (.Name a p1) [] [] p2) (fun σZ HZ Q => σZ[0]? = some (some (.ref f)) ∧ HZ c' = some (LamX.CodeO c' q) ∧ tl E HZ Q)) : ED ⟨W, F, H⟩ Z (.Call (.Name a p1) [] [] p2) (gAct f act R) :=
  ⟨pe_imp h fun s H2 Q ⟨σ, F2, Qd, Rl, ⟨e0, q⟩, k⟩ => by
    obtain ⟨v, hv, rp⟩ := Rl.dat e0
    cases rp
    exact ⟨hv, Rl.base.hh c' _ hc (ext_notW Rl.bdk hc) (by intro _ z; cases z), ok F2 H2 R Qd E Q Rl.base Rl.deck q k (hE.more Rl.base)⟩⟩
section
variable {P : Program} {w : World} {K : PySem.W.Frag} {mg : Str → Option Value} {base : Heap} {T : List (Addr × Str)} {x a : Str} {st : Stmt} {f : Addr} {fd : FuncData} {N : List Str} {k : Nat} {sp : ASp} {g : WD → Addr → Act → GS}
abbrev cxL (P : Program) (w : World) (K : PySem.W.Frag) (mg : Str → Option Value) (base : Heap) (N : List Str) (x : Str) (st : Stmt) (f : Addr) (cdv : Value) (A : Around) (outer : List Env) (s : Shared) (H : Hp) : Cx :=
  cxOf C8.CX0 P w K mg base N x (defScope st) f cdv A outer s H C8.E0
/-- the def x, which calls its one parameter a, keeps sp -/
structure OkL (P : Program) (w : World) (K : PySem.W.Frag) (mg : Str → Option Value) (base : Heap) (T : List (Addr × Str)) (x : Str) (st : Stmt) (k : Nat) (N : List Str) (a : Str) (sp : ASp) : Prop where
  ex : ∃ (f : Addr) (oc kV doc pm cdv ct : Value) (an od : Option Addr) (osl : Array (Option Value)), mg x = some (.ref f) ∧ Fun K x x st f (PySem.W.fnOf x x (defArgs st) (defBody st) (defScope st) .none kV doc pm an cdv ct) ∧
    K.lookup f = some ⟨oc, od, .func (PySem.W.fnOf x x (defArgs st) (defBody st) (defScope st) .none kV doc pm an cdv ct), osl⟩ ∧ PySem.W.codeIn K cdv x = true ∧
    ∀ (A : Around) (outer : List Env) (q : Str) (f0 c' : Addr) (s : Shared) (H : Hp) (Q : VK) (tl : XK → Hp → VK → Prop), Room k (A.deeper (envOfC x (defScope st) s.heap.objs.size f cdv)) →
      (∀ (W : WX) (pn : List (Addr × Obj)) (xe : Value → Shared → Prop) (E : XK) (p1 p2 : Pos), Takes ((cxL P w K mg base N x st f cdv A outer s H).tr pn xe) W → (∀ cls d σ' H', E cls d H' → W cls d σ' H') →
        PE ((cxL P w K mg base N x st f cdv A outer s H).tr pn xe) (.Call (.Name a p1) [] [] p2) (fun σZ HZ Q => σZ[0]? = some (some (.ref f0)) ∧ HZ c' = some (LamX.CodeO c' q) ∧ tl E HZ Q)) →
      H c' = some (LamX.CodeO c' q) → TTg ⟨K, mg⟩ T sp tl H Q →
      ∃ t, PSs (cxL P w K mg base N x st f cdv A outer s H).nox (defBody st) t ∧ t { nx := fun _ H' => Q .non H', rt := Q } (L2.start N [.ref f0]) H
  sc : FnScope N [a] (defScope st)
theorem okL (hm : mg x = some (.ref f)) (F : Fun K x x st f fd) (S : FnScope N [a] (defScope st))
    (body : ∀ (cdv : Value) (A : Around) (outer : List Env) (s : Shared) (H : Hp) (W : WD) (F : Hp) (f0 : Addr) (act : Act), Room k (A.deeper (envOfC x (defScope st) s.heap.objs.size f cdv)) →
      (∀ (Wx : WX) (pn : List (Addr × Obj)) (xe : Value → Shared → Prop) (R : Er → Prop) (p1 p2 : Pos), Takes ((cxL P w K mg base N x st f cdv A outer s H).tr pn xe) Wx → FinE ⟨W, T⟩ ⟨K, mg⟩ F H R (fun c o H => ∀ s : L2.St, s.length = N.length → Wx c o s H) →
        ED ⟨⟨W, T⟩, F, H⟩ ((cxL P w K mg base N x st f cdv A outer s H).tr pn xe) (.Call (.Name a p1) [] [] p2) (gAct f0 act R)) →
      SDs ⟨⟨W, T⟩, F, H⟩ (cxL P w K mg base N x st f cdv A outer s H).nox (defBody st) (g W f0 act))
    (law : ∀ W act Q f0, sp W act Q → g W f0 act (endsD Q) (startD N.length [.opq (.ref f0)])) : OkL P w K mg base T x st k N a sp := by
  obtain ⟨oc, od, kV, doc, pm, an, cdv, ct, osl, rfl, lk, hcd⟩ := F.ex
  refine ⟨⟨f, oc, kV, doc, pm, cdv, ct, an, od, osl, hm, F, lk, hcd, fun A outer q f0 c' s H Q tl hr hact hc tt => ?_⟩, S⟩
  obtain ⟨W, F0, act, Qd, e, dk, hsp, ok, fin⟩ := tt
  have b := body cdv A outer s H W F0 f0 act hr fun Wx pn xe R p1 p2 tk hE =>
    ed_act (Z := (cxL P w K mg base N x st f cdv A outer s H).tr pn xe) hc ok hE (hact (fun c o σ H => σ.length = N.length → Wx c o σ H) pn xe (fun c o H => ∀ s : L2.St, s.length = N.length → Wx c o s H) p1 p2
      (fun u s' ⟨a, B, sI, pins, σ, H, cls, d, e, I, nb, up, sky, na, os, ag, w⟩ => tk u s' ⟨a, B, sI, pins, σ, H, cls, d, e, I, nb, up, sky, na, os, ag, w I.len⟩) fun cls d σ' H' h hl => h σ' hl)
  exact ⟨_, b.run, startD N.length [.opq (.ref f0)], F0, endsD Qd, rel_start e dk (.cons (.opq _) .nil), law W act Qd f0 hsp,
    ⟨fun σ s F' H' _ R' qn => fin .non qn F' H' .non R'.base R'.deck .non, fun d v F' H' g' dk' r' qd => fin d qd F' H' v g' dk' r', fun _ _ _ _ _ _ z => z.elim, fun _ _ _ _ _ _ z => z.elim⟩⟩
end
/-! ### the making of a lambda: what becomes of the heap -/
section
variable {X : Cx} {pins : List (Addr × Obj)} {σ : L2.St} {H : Hp} {s : Shared}
/-- nothing, or the table is longer and a code object is new -/
def LamH (H : Hp) (Pt : Addr) (q : Str) (H1 : Hp) : Prop := H1 = H ∨ ∃ (ps : Array Value) (c' : Addr), H c' = none ∧ (∃ qs, H Pt = some (.tbl qs)) ∧ H1 = upd (upd H Pt (.tbl ps)) c' (LamX.CodeO c' q)
theorem no_fr (I : Inv X pins σ H s) {f : Addr} (new : s.heap.objs.size ≤ f) : f ∉ frs X.stack := fun w => by
  rcases List.mem_cons.mp (I.stkSub _ w) with z | z
  · exact Nat.lt_irrefl _ (Nat.lt_of_lt_of_le (z ▸ I.lt) new)
  · exact I.nofs new z
theorem lam_new {T : List (Addr × Str)} {c Pt : Addr} {params : Arguments} {body : Expr} {scope : Scope} {pos : Pos} {E Q : Value → Shared → Prop} {q : Str} (hq : q = X.env.qual ++ "<lambda>") (I : Inv X pins σ H s) (TB : LamX.TabB X.base X.mg c Pt) (isC : X.env.code = .ref c)
    (inT : (Pt, q) ∈ T) (one : ∀ p ∈ T, p.1 = Pt → p.2 = q) (tabs : LamX.Tabs T H) (nod : defaultsOf params X.env = ([], [])) (caught : ∀ y ∈ scope.names, y.2 = .free → ∃ c, X.env.cells.lookup y.1 = some c)
    (go : ∀ (f c' : Addr) (pm ctv : Value) (H1 : Hp) (z : Shared), Inv X pins σ H1 z → LamH H Pt q H1 → LamX.Tabs T H1 → z.heap.get? f = some (PySem.W.kla_obj "<lambda>" q params body scope (cloFrom X.env.cells scope.names []) pm c' ctv) → H1 f = none → f ∉ frs X.stack →
      H1 c' = some (LamX.CodeO c' q) → Q (.ref f) z) : wpAny (model X.prog X.w) X.A (eval (.Lambda params body scope pos) X.env) Q E s := by
  obtain ⟨ps, atP, tri, known⟩ := tabs _ inT
  have objP : s.heap.get? Pt = some { cls := .none, data := .fields ps } := I.hok Pt _ atP
  have bltP := TB.bm.keeps I.bk
  refine PySem.W.kla_eval nod ?_
  cases found : codeAmong pos ps.toList with
  | some cv =>
    obtain ⟨c', rfl, isco⟩ := known pos cv found
    refine PySem.W.kla_makeFunctionHit (mg := X.mg) (c := c) (P := Pt) (ps := ps) (closure_ok caught) I.ok.glob (I.mod.glob.keeps I.bk) isC (TB.code.keeps I.bk) objP tri found bltP fun ctv hp tk keep le => ?_
    subst hq
    exact go hp.objs.size c' _ ctv H _ (I.kept (t' := tk) fun b o e => Heap.get?_push_of_some _ (keep b o e)) (.inl rfl) tabs (Heap.get?_push_size _ rfl) (I.hok.fresh le) (no_fr I le) isco
  | none =>
    refine PySem.W.kla_makeFunction (mg := X.mg) (c := c) (P := Pt) (ps := ps) (closure_ok caught) I.ok.glob (I.mod.glob.keeps I.bk) isC (TB.code.keeps I.bk) objP tri found TB.gP bltP fun c' ctv hp tk keep le lt rec tab => ?_
    obtain ⟨c2, oc, vs, t, z2, getc, dat, nam⟩ := rec
    cases z2
    subst hq
    have le2 : s.heap.objs.size ≤ hp.objs.size := Nat.le_of_lt (Nat.lt_of_le_of_lt le lt)
    have freeC : H c' = none := I.hok.fresh le
    have neP : Pt ≠ c' := ne_of_none atP freeC
    have J := LamX.inv_table (t' := tk) (q := X.env.qual ++ "<lambda>") (more := #[rawInt pos.line, rawInt pos.col, .ref c']) (h' := hp.push (PySem.W.kla_obj "<lambda>" (X.env.qual ++ "<lambda>") params body scope (cloFrom X.env.cells scope.names []) ((X.mg "__name__").getD .none) c' ctv)) I atP
      (fun b o z e => Heap.get?_push_of_some _ (keep b o z e)) (Heap.get?_push_of_some _ tab) le ⟨oc, vs, t, Heap.get?_push_of_some _ getc, dat, nam⟩
    have others : ∀ b o, H b = some o → b ≠ Pt → upd (upd H Pt (.tbl (ps ++ #[rawInt pos.line, rawInt pos.col, .ref c']))) c' (LamX.CodeO c' (X.env.qual ++ "<lambda>")) b = some o := fun b o e z => by
      rw [upd_ne (ne_of_none e freeC), upd_ne z]
      exact e
    have codes : ∀ b (q : Str), H b = some (LamX.CodeO b q) → upd (upd H Pt (.tbl (ps ++ #[rawInt pos.line, rawInt pos.col, .ref c']))) c' (LamX.CodeO c' (X.env.qual ++ "<lambda>")) b = some (LamX.CodeO b q) := fun b q e => others b _ e fun z => by
      rw [z, atP] at e
      cases e
    refine go hp.objs.size c' _ ctv _ _ J (.inr ⟨_, c', freeC, ⟨_, atP⟩, rfl⟩) (fun p hp' => ?_) (Heap.get?_push_size _ rfl) ?_ (no_fr I le2) upd_same
    · by_cases z : p.1 = Pt
      · rw [one p hp' z, z]
        have app : (ps ++ #[rawInt pos.line, rawInt pos.col, .ref c']).toList = ps.toList ++ [rawInt pos.line, rawInt pos.col, .ref c'] := by rw [Array.toList_append]
        refine ⟨_, (upd_ne neP).trans upd_same, app ▸ PySem.TriplesOk_snoc _ _ _ _ tri, fun p2 cv e => ?_⟩
        rw [app] at e
        rcases LamX.among_app _ tri e with e | e
        · obtain ⟨c0, z1, z2⟩ := known p2 cv e
          exact ⟨c0, z1, codes _ _ z2⟩
        · exact ⟨c', e, upd_same⟩
      · obtain ⟨qs, b1, b2, b3⟩ := tabs p hp'
        refine ⟨qs, others _ _ b1 z, b2, fun p2 cv e => ?_⟩
        obtain ⟨c0, z1, z2⟩ := b3 p2 cv e
        exact ⟨c0, z1, codes _ _ z2⟩
    · have ne1 : hp.objs.size ≠ c' := Nat.ne_of_gt lt
      have ne2 : hp.objs.size ≠ Pt := fun z => Nat.lt_irrefl _ (Nat.lt_of_lt_of_le (Heap.lt_size objP) (z ▸ le2))
      rw [upd_ne ne1, upd_ne ne2]
      exact I.hok.fresh le2
end
theorem lamH_grow {W : WT} {F H H1 : Hp} {Pt : Addr} {q : Str} (e : Same F H) (dk : DeckIn W F H) (inT : (Pt, q) ∈ W.T) (l : LamH H Pt q H1) (tabs : LamX.Tabs W.T H1) : Grow W F H F H1 ∧ DeckIn W F H1 := by
  rcases l with rfl | ⟨ps, c', nc, ⟨qs, atP⟩, rfl⟩
  · exact ⟨Grow.refl e, dk⟩
  have st : ∀ a o, H a = some o → NT o → upd (upd H Pt (.tbl ps)) c' (LamX.CodeO c' q) a = some o := fun a o z n => by
    rw [upd_ne (ne_of_none z nc), upd_ne]
    · exact z
    · intro z2
      rw [z2, atP] at z
      cases z
      exact n _ rfl
  refine ⟨⟨Same.refl F, fun a o z => st a o (e a o z) (dk.nf a o z), fun a o z _ n => st a o z n, fun _ z _ => z, fun a z => upd_keep (upd_keep z)⟩, ⟨fun p z => ?_, dk.tf, tabs, dk.nf, fun a qs z => ?_⟩⟩
  · have d := dk.dk p z
    obtain ⟨ns, m, n, h1, h2, r⟩ := d.st
    exact ⟨d.fd, d.fl, d.ne, ns, m, n, st _ _ h1 (by intro _ z; cases z), st _ _ h2 (by intro _ z; cases z), r⟩
  · by_cases h1 : a = c'
    · subst h1
      rw [upd_same] at z
      cases z
    · rw [upd_ne h1] at z
      by_cases h2 : a = Pt
      · exact ⟨_, inT, h2⟩
      · rw [upd_ne h2] at z
        exact dk.ot a qs z
@[simp] def gLam (sp : ASp) (W : WD) (fl : (Er → Prop) → GE) (σ : List SV) (Q : D → Prop) : Prop := sp W (fun R Qd => fl R (noOwn σ) Qd) Q
theorem noOwn2 (σ : List SV) : noOwn (noOwn σ) = noOwn σ := by
  simp only [noOwn, List.map_map]
  congr 1
  funext x
  cases x <;> rfl
section
variable {B : Bs} {X : Cx} {M : Str → Str → Option Bool}
def tlB (W : WT) (K : Kn) (fl : (Er → Prop) → GE) (E : XK) : TE := fun σ H Q => ∃ (F : Hp) (R : Er → Prop) (σd : List SV) (Qd : D → Prop), FinE W K F H R E ∧ Rel ⟨W, F, H⟩ K σd σ F H ∧ fl R σd Qd ∧ Fin ⟨W, F, H⟩ K F H Qd Q
theorem ed_lam {x a : Str} {st : Stmt} {N : List Str} {k : Nat} {sp : ASp} {c Pt : Addr} {params : Arguments} {body : Expr} {scope : Scope} {lpos p pos : Pos} {fl : (Er → Prop) → GE}
    (O : OkL X.prog X.w X.K X.mg X.base B.W.T x st (k + 1) N a sp) (b : BindsP x st [a]) (TB : LamX.TabB X.base X.mg c Pt) (isC : X.env.code = .ref c) (inT : (Pt, X.env.qual ++ "<lambda>") ∈ B.W.T) (one : ∀ p ∈ B.W.T, p.1 = Pt → p.2 = X.env.qual ++ "<lambda>") (hr : Room (k + 2) X.A)
    (L : LamX.LamS X.env.scope scope)
    (hb : ∀ (A : Around) (outer : List Env) (s : Shared) (H : Hp) (E : XK) (f c' : Addr) (F' H' : Hp) (R : Er → Prop), Room k (A.deeper (LamX.lamEnv X scope s.heap.objs.size f c')) → FinE B.W X.kn F' H' R E → Passes (L2.CX X.prog X.w) (LamX.lamCx X A outer s H E scope f c') E →
      ED ⟨B.W, F', H'⟩ (LamX.lamCx X A outer s H E scope f c') body (fl R))
    (hN : N[0]? = some a) (hva : Vis (defScope st) a) (hdef : defaultsOf params X.env = ([], []))
    (hbind : ∀ (q : Str) (cl : List (Str × Addr)) (pm cv ctv : Value), bindArgs (PySem.W.kla_fn "<lambda>" q params body scope cl pm cv ctv) ⟨[], []⟩ = pure [])
    (hg : Gl X x := by rfl) (hdb : (x == ("__debug__" : Str)) = false := by decide) (hd : (a == ("__debug__" : Str)) = false := by decide) (hcd : (a == ("__classdict__" : Str)) = false := by decide) :
    ED B X (.Call (.Name x p) [.Lambda params body scope lpos] [] pos) (gLam sp B.W.p fl) := by
  obtain ⟨f, oc, kV, doc, pm, cdv, ct, an, od, osl, hm, F, lk, hcode2, gives⟩ := O.ex
  refine ⟨⟨fun pins s σ H Q I ⟨σd, F0, Qd, Rl, q, kf⟩ => wpAny_Call_Name_kw (ld_glob I hg hm (PySem.W.callWith_K (h₀ := X.base) I.ok.mod.kin F.kp ?_ (by rfl) (by rfl)) hdb)⟩⟩
  show wpAny _ _ (spliced ((false, eval (.Lambda params body scope lpos) X.env) :: backTo pos (starEach [] X.env))) _ _ s
  refine Calls.spliced_cons (lam_new rfl I TB isC inT one Rl.deck.tb hdef (L.has I.ok) fun f0 c' pm' ctv H1 s' I1 lH T1 getf nf nfr isco => Calls.spliced_nil ⟨I1.kIn, ?_⟩)
  obtain ⟨g, d1⟩ := lamH_grow Rl.ex Rl.deck inT lH T1
  have rc : codeAny (model X.prog X.w) X.A (.call (.ref f) ⟨[.ref f0], []⟩) (CR C8.CX0 X.stack X.prog X.w H1 s' Q C8.E0) s' := by
    refine LamX.run_ofS (N := N) (ps := [a]) (us := [.ref f0]) (vs := [.ref f0]) lk hcode2 O.sc hr I1.env0 (F.binds b s' [.ref f0] I1.kIn rfl) (.cons rfl .nil) rfl fun hr' => ?_
    obtain ⟨t', ht', hq'⟩ := gives X.A X.stack (X.env.qual ++ "<lambda>") f0 c' s' H1 Q (fun E H' Q' => tlB B.W X.kn fl E σ H' Q') hr'
      (fun W pn xe E p1 p2 tk hW => LamX.pe_act (i := 0) (tb := tlB B.W X.kn fl E) I1 L getf nf nfr (hbind _ _ _ _ _) tk hW hr' (fun A outer s H hr2 => ⟨fun pins s2 σ H2 Q I ⟨F, R, σd, Qd, hE, Rl, q, kf⟩ =>
        (hb A outer s H E f0 c' F H2 R hr2 hE (passes_call (takes_of rfl rfl rfl rfl) fun _ _ _ _ z => z)).run.run pins s2 σ H2 Q I ⟨σd, F, Qd, Rl, q, kf⟩⟩) hN hva hd hcd) isco
      ⟨B.W.p, F0, fun R Qd => fl R (noOwn σd) Qd, Qd, g.fh, d1, q, fun F' H' R Qd' E Q' g' dk' qa fin hE => ⟨F', R, noOwn σd, Qd', hE, by
        have z := rel_noOwn (B := ⟨B.W, F0, H⟩) ((rel_noOwn Rl).grow (g.trans g') dk')
        rw [noOwn2] at z
        exact z, qa, fin⟩, kf.more g⟩
    exact ⟨t', ht'.nox, hq'⟩
  refine wpAny_call (codeAny_mono rc fun r s2 hq => ?_)
  rcases r with e | fl
  · exact (show False from hq).elim
  · cases fl <;> first | exact I1.after hq | exact False.elim hq
end
end ND

/-! ND22: try around what a lambda does; str of integers; t[::-1] of a tuple; a list of one's own made in a parallel assignment; the empty promise -/
namespace ND
open PySem PySem.Spec L2
open PyProof.Rows (envOfC)
section
variable {B : Bs} {X : Cx} {M : Str → Str → Option Bool}
/-- as sd_try; the body is told what takes its exceptions -/
theorem sd_tryL {body : List Stmt} {h₀ : ExceptHandler} {hs : List ExceptHandler} {l : List Cls3} {l' : List Hdl} {tb : (Er → Prop) → GS} {pos : Pos} {R : Er → Prop} {E : XK} (hst : X.stack = X.env :: X.outer) (hf : X.env.frame = some X.env.locals) (hN : X.N.Nodup)
    (tk : Takes X (fun c o _ H => E c o H)) (hE : FinE B.W X.kn B.F B.H R E) (hM : ClsTab X.kn M)
    (hb : ∀ (Wx : WX) (pn : List (Addr × Obj)) (xe : Value → Shared → Prop) (R' : Er → Prop), Takes (X.tr pn xe) Wx → FinE B.W X.kn B.F B.H R' (fun c o H => ∀ s : L2.St, s.length = X.N.length → Wx c o s H) → PassesOwn (model X.prog X.w) X.A X.env xe → SDs B (X.tr pn xe) body (tb R'))
    (hh : ClausesOk B X (h₀ :: hs) l l') : SD B X (.Try body (h₀ :: hs) [] [] pos) (gTry M X.N.length R tb l) :=
  ⟨ps_imp (ps_try_h (Wout := fun c o _ H => E c o H) (tb := fun W Dn s H => ∃ R', FinE B.W X.kn B.F B.H R' (fun c o H => ∀ s : L2.St, s.length = X.N.length → W c o s H) ∧ LS B X.kn (tb R') Dn s H) hst hf hN tk
      (fun W pn xe tk' po => ⟨fun pins s σ H Dn I ⟨R', fin, q⟩ => (hb W pn xe R' tk' fin po).run.run pins s σ H Dn I q⟩) hh.hdls)
    fun Dn s H ⟨σ, F, Ed, Rl, q, k⟩ => ⟨hdG M X.N.length R Ed.rt l, fun er w F' H' c o g dk rp s' hl =>
      hh.takes hM k g dk rp hl (fun ro => hE er ro F' H' c o g dk rp) w, σ, F, Ed, Rl, q, k⟩⟩
theorem nbSum : bootBuiltins "sum" = some (.builtin "sum") := by decide +kernel
theorem nbAll : bootBuiltins "all" = some (.builtin "all") := by decide +kernel
theorem nbAny : bootBuiltins "any" = some (.builtin "any") := by decide +kernel
theorem finE_none {W : WT} {K : Kn} {F H : Hp} {E : XK} : FinE W K F H (fun _ => False) E := fun _ q => q.elim
/-! str -/
def strI (ds : List D) (Q : D → Prop) : Prop := ∃ i, ds = [.int i] ∧ i.natAbs < 10 ^ 4300 ∧ Q (.str (toString i))
@[simp] theorem strI_i (i : Int) (Q : D → Prop) : strI [.int i] Q = (i.natAbs < 10 ^ 4300 ∧ Q (.str (toString i))) := by simp [strI]
theorem c_strB (hc : X.calm = true) (hd : Dig X.K) : CallR X (.type "str") (LCa B X.kn strI) := fun pins s σ H vs us Q I rx ⟨F, ds, Qd, e, dk, r, ⟨i, ei, h1, h2⟩, k⟩ => by
  subst ei
  obtain ⟨v, rfl, r1⟩ := rb1 r
  cases r1.int
  obtain ⟨u, rfl, t, rfl⟩ := vals1 rx
  exact PyProof.Rows.str_of_int_or (I.ok.hd hc) (hd.at I.kIn) (fun _ => ⟨.str _, H, I.tok _, ⟨_, rfl⟩, k.here e dk h2 (.str _)⟩) fun z => absurd h1 (Nat.not_lt.mpr z)
end
/-! ### t[::-1], t a tuple that is not empty -/
section
variable {prog : Program} {w : World} {A : Around} {E : Value → Shared → Prop} {s : Shared}
theorem back_fields {sl : Addr} {v : Value} {n : Nat} {Q : Int × Int × Nat → Shared → Prop} (hs : s.heap.IsSliceOf sl .none .none v) (pv : IsPart v (some (-1))) (done : Q (((n : Int) - 1), -1, n) s) :
    wpAny (model prog w) A (Builtin.Slice.sliceApplied (.ref sl) (pure (n : Int))) Q E s := by
  obtain ⟨ob, at_sl, _, dat⟩ := id hs
  have places : Builtin.Slice.slicePlaces ((n : Int) - 1) (-1) (-1) = n := by
    unfold Builtin.Slice.slicePlaces
    rw [if_neg (by decide)]
    have e1 : (-(-1 : Int)) = 1 := by decide
    rw [e1, Int.ediv_one]
    split <;> omega
  unfold Builtin.Slice.sliceApplied Builtin.Slice.sliceFields
  refine wpAny_bind (wpAny_bind (wpAny_field at_sl dat (x := .none) rfl (wpAny_bind (wpAny_field at_sl dat (x := .none) rfl (wpAny_bind (wpAny_field at_sl dat (x := v) rfl (wpAny_pure ?_)))))))
  refine wpAny_bind (HT.slicePart_ pv ?_)
  show wpAny _ _ (if ((-1 : Int) == 0) = true then _ else _) _ _ s
  rw [if_neg (by decide)]
  refine wpAny_bind (HT.slicePart_ .none (wpAny_bind (HT.slicePart_ .none (wpAny_bind (wpAny_pure ?_)))))
  show wpAny _ _ (pure (((n : Int) - 1), (-1 : Int), Builtin.Slice.slicePlaces ((n : Int) - 1) (-1) (-1))) _ _ s
  rw [places]
  exact wpAny_pure done
theorem back_pick (xs : Array Value) : ((List.range xs.size).filterMap fun (m : Nat) => xs[(((xs.size : Int) - 1) + (m : Int) * -1).toNat]?) = xs.toList.reverse := by
  apply List.ext_getElem?
  intro i
  have all : ∀ m ∈ List.range xs.size, (fun (m : Nat) => xs[(((xs.size : Int) - 1) + (m : Int) * -1).toNat]?) m = (fun m => some (xs.toList.reverse.getD m .none)) m := fun m hm => by
    have h := List.mem_range.mp hm
    have e : (((xs.size : Int) - 1) + (m : Int) * -1).toNat = xs.size - 1 - m := by omega
    have hl : m < xs.toList.reverse.length := by simpa using h
    show xs[_]? = some (xs.toList.reverse.getD m .none)
    rw [e, List.getD_eq_getElem?_getD, List.getElem?_eq_getElem hl, Option.getD_some, List.getElem_reverse]
    simp
  have e2 : ∀ (l : List Nat) (f g : Nat → Option Value), (∀ m ∈ l, f m = g m) → l.filterMap f = l.filterMap g := fun l f g h => by
    induction l with
    | nil => rfl
    | cons x l ih => rw [List.filterMap_cons, List.filterMap_cons, h x List.mem_cons_self, ih fun m hm => h m (List.mem_cons_of_mem _ hm)]
  rw [e2 _ _ _ all]
  have e3 : ((List.range xs.size).filterMap fun m => some (xs.toList.reverse.getD m .none)) = (List.range xs.size).map fun m => xs.toList.reverse.getD m .none := by
    induction List.range xs.size with
    | nil => rfl
    | cons x l ih => rw [List.filterMap_cons, ih, List.map_cons]
  rw [e3, List.getElem?_map]
  by_cases h : i < xs.size
  · have hl : i < xs.toList.reverse.length := by simpa using h
    rw [List.getElem?_range h, Option.map_some, List.getD_eq_getElem?_getD, List.getElem?_eq_getElem hl, Option.getD_some]
  · rw [List.getElem?_eq_none (by simpa using h), List.getElem?_eq_none (by simpa using h), Option.map_none]
theorem item_back {t sl : Addr} {items : Array Value} {v : Value} {Q : Value → Shared → Prop} (ht : PyProof.Rows.IsTup s.heap t items) (hs : s.heap.IsSliceOf sl .none .none v) (pv : IsPart v (some (-1))) (fits : items.size ≤ sizeLine)
    (done : Q (.ref s.heap.objs.size) { s with heap := s.heap.push { cls := .type "tuple", data := .seq items.toList.reverse.toArray } }) : wpAny (model prog w) A (getItem (.ref t) (.ref sl)) Q E s := by
  have okSize : sizeOk (.seq items.toList.reverse.toArray) := by
    show items.toList.reverse.toArray.size ≤ sizeLine
    rw [List.size_toArray, List.length_reverse, Array.length_toList]
    exact fits
  obtain ⟨ob, at_sl, cl, _⟩ := id hs
  have isSl : s.TypeIs (.ref sl) "slice" := ⟨ob, at_sl, cl⟩
  unfold getItem
  try with_reducible refine wpAny_holding ?_
  first | refine wpAny_bind (wpAny_pure ?_) | skip
  refine wpAny_bind (wpAny_sequenceKey ht.typeIs (by decide) (wpAny_bind (wpAny_callSpecial?_slot (name := Str.ofString "__getitem__") ht.typeIs PyProof.Rows.slot_tuple_getitem (wpAny_call_entry PyProof.Rows.slot_tuple_getitem ht.typeIs PyProof.Rows.entry_tuple_getitem ?_ (PyProof.Rows.args_tuple_getitem _ _)))))
  show wpAny _ _ (Builtin.Tuple.tupleItemsOf (.ref t) >>= _) _ _ s
  refine wpAny_bind (PyProof.Rows.tupleItemsOf_ ht (wpAny_bind (wpAny_typeOf isSl ?_)))
  rw [if_pos (by decide)]
  refine wpAny_bind (back_fields hs pv ?_)
  show wpAny _ _ (if (((items.size : Int) - 1) == 0 && (-1 : Int) == 1 && items.size == items.size) = true then _ else _) _ _ s
  rw [if_neg (by simp), back_pick]
  first
    | exact wpAny_bind (m := Builtin.Tuple.tupleExact _) (wpAny_newObj_type (wpAny_pure ⟨_, rfl, wpAny_pure done⟩) okSize)
    | exact wpAny_bind (m := Builtin.Tuple.tupleExact _) (wpAny_newObj_type (wpAny_bind (wpAny_pure (wpAny_pure ⟨_, rfl, wpAny_pure done⟩))) okSize)
    | exact wpAny_bind (wpAny_bind (m := Builtin.Tuple.tupleExact _) (wpAny_newObj_type (wpAny_pure (wpAny_pure ⟨_, rfl, wpAny_pure done⟩)) okSize))
    | exact wpAny_bind (wpAny_bind (m := Builtin.Tuple.tupleExact _) (wpAny_newObj_type (wpAny_pure ⟨_, rfl, wpAny_pure done⟩) okSize))
end
end ND

/-! ND23: [::-1] of lists and tuples; dict displays; x, y = [..], e; the promise of nothing; the end of a law with tables -/
namespace ND
open PySem PySem.Spec L2
open PyProof.Rows
section
variable {B : Bs} {X : Cx} {e a b : Expr} {fa fb : GE} {pos : Pos}
/-! ### e[::-1] -/
def tRev2 (K : PySem.W.Frag) (te : TE) : TE := fun σ H Q => te σ H fun x H1 => ∃ a xs, x = .ref a ∧ ((SqL K H1 a xs ∧ ∀ p, H1 p = none → Q (.ref p) (upd H1 p (.lst xs.reverse))) ∨ (SqT K H1 a xs ∧ ∀ p, H1 p = none → Q (.ref p) (upd H1 p (.tup xs.reverse))))
theorem pe_rev2 {te : TE} {k : Nat} {p1 p2 p3 : Pos} (he : PE X e te) : PE X (.Subscript e (.Slice none none (some (.UnaryOp .USub (.Constant (.int 1) k p1) p2)) p3) pos) (tRev2 X.K te) := by
  refine ⟨fun pins s σ H Q I h => Subscript_ (thn (he.run pins s σ H _ I h) fun v s1 ⟨x, H1, I1, r1, a, xs, ex, q⟩ => ?_)⟩
  subst ex
  cases r1
  have minus : PO X (some (.UnaryOp .USub (.Constant (.int 1) k p1) p2)) (tPart (tUn (rU fun i => .int (-i)) (tC (.int 1)))) := po_some (pe_un un_neg pe_int)
  refine wpAny_Slice (thn (po_none.run pins s1 σ H1 (fun o G => o = none ∧ G = H1) I1 ⟨rfl, rfl⟩) fun vl s2 ⟨l, G2, I2, pl, el, e2⟩ => ?_)
  subst el e2
  refine thn (po_none.run pins s2 σ G2 (fun o G => o = none ∧ G = G2) I2 ⟨rfl, rfl⟩) fun vu s3 ⟨u, G3, I3, pu, eu, e3⟩ => ?_
  subst eu e3
  refine thn (minus.run pins s3 σ G3 (fun o G => o = some (-1) ∧ G = G3) I3 ⟨1, rfl, -1, rfl, rfl, rfl⟩) fun vs s4 ⟨o, G4, I4, ps, eo, e4⟩ => ?_
  subst eo e4
  have J : Inv X pins σ G4 { s4 with heap := s4.heap.push { cls := .type "slice", data := .fields #[vl, vu, vs] } } := I4.kept (t' := s4.toks) fun _ _ z => Heap.get?_push_of_some _ z
  show wpAny (model X.prog X.w) X.A (subscriptTail e (.Slice none none (some (.UnaryOp .USub (.Constant (.int 1) k p1) p2)) p3) (.ref a) (.ref s4.heap.objs.size)) (EP X pins σ Q) X.xe { s4 with heap := s4.heap.push { cls := .type "slice", data := .fields #[vl, vu, vs] } }
  rcases q with ⟨hx, q⟩ | ⟨hx, q⟩
  · obtain ⟨its, r, isL, fits⟩ := J.list hx
    have len := r.length
    refine tail_any (ops := [.ref a, .ref s4.heap.objs.size]) isL.isList.typeIs (PySem.slot_list_getitem.lookup) ?_ (by with_unfolding_all rfl)
    refine wpAny_getItem_list_slice isL.isList (Heap.IsSliceOf.new _ vl vu vs) pl pu ps (by decide) ?_ (by rw [List.size_toArray]; omega)
    rw [PySem.W.krv_pick]
    refine ⟨.ref _, _, J.laid (t' := s4.toks) (o := .lst xs.reverse) (fun _ _ z => Heap.get?_push_of_some _ z) (Nat.le_refl _) ⟨?_, _, 0, r.reverse, Heap.get?_push_size _ rfl⟩, rfl, q _ (J.hok.fresh (Nat.le_refl _))⟩
    rw [List.length_reverse]
    exact fits
  · obtain ⟨its, r, isT, fits⟩ := J.tuple hx
    have len := r.length
    cases pl
    cases pu
    refine tail_any (ops := [.ref a, .ref s4.heap.objs.size]) isT.typeIs (PyProof.Rows.slot_tuple_getitem.lookup) ?_ (by with_unfolding_all rfl)
    refine item_back isT (Heap.IsSliceOf.new _ .none .none vs) ps (by rw [List.size_toArray]; omega) ?_
    refine ⟨.ref _, _, J.laid (t' := s4.toks) (o := .tup xs.reverse) (fun _ _ z => Heap.get?_push_of_some _ z) (Nat.le_refl _) ⟨?_, _, r.reverse, ?_⟩, rfl, q _ (J.hok.fresh (Nat.le_refl _))⟩
    · rw [List.length_reverse]
      exact fits
    · exact IsTup.new _ _
def revD : D → (D → Prop) → Prop
  | .lst xs, Q => Q (.lst xs.reverse)
  | .tup xs, Q => Q (.tup xs.reverse)
  | _, _ => False
@[simp] theorem revD_l (xs : List D) (Q : D → Prop) : revD (.lst xs) Q = Q (.lst xs.reverse) := rfl
@[simp] theorem revD_t (xs : List D) (Q : D → Prop) : revD (.tup xs) Q = Q (.tup xs.reverse) := rfl
theorem ed_rev {k : Nat} {p1 p2 p3 : Pos} (ha : BD B X a fa) : ED B X (.Subscript a (.Slice none none (some (.UnaryOp .USub (.Constant (.int 1) k p1) p2)) p3) pos) (gUn revD fa) :=
  ⟨pe_imp (pe_rev2 ha.run) fun s H Q ⟨σ, F, Qd, R, q, kf⟩ => ⟨σ, F, _, R, q, fun x qx F1 H1 v g1 d1 r1 => by
    unfold revD at qx
    split at qx
    · obtain ⟨c, us, rfl, st, rs⟩ := r1.lst g1.fh
      exact ⟨c, us, rfl, .inl ⟨SqL.of st, fun p hp => (kf.more g1).frz g1.fh d1 qx hp (.lst upd_same (rs.reverse.mono (same_new (g1.fh.free hp))))⟩⟩
    · obtain ⟨c, us, rfl, _, st, rs⟩ := r1.tup g1.fh
      exact ⟨c, us, rfl, .inr ⟨st, fun p hp => (kf.more g1).frz g1.fh d1 qx hp (.tup (SqT.of upd_same) (rs.reverse.mono (same_new (g1.fh.free hp))))⟩⟩
    · exact qx.elim⟩⟩
/-! ### {} and {k: e}, k written -/
theorem ed_dic0 : ED B X (.Dict [] [] pos) (gC (.dic [])) :=
  ⟨pe_imp pe_dnewK fun s H Q ⟨σ, F, Qd, R, q, kf⟩ => fun d hd => kf.frz R.ex R.deck q hd (.dic upd_same .nil)⟩
@[simp] def gDic1 (k : Key) (fa : GE) (σ : List SV) (Q : D → Prop) : Prop := fa σ fun x => Q (.dic [(k, x)])
theorem ed_dic1 {kx vx : Expr} {k : Key} (hk : PE X kx (tC (kV k))) (ha : ED B X vx fa) : ED B X (.Dict [some kx] [vx] pos) (gDic1 k fa) :=
  ⟨pe_imp (pe_disp (pps_cons hk ha.run pps_nil) rfl rfl (by simp) (by simp)) fun s H Q ⟨σ, F, Qd, R, q, kf⟩ => fun p hp => by
    have R1 := R.grow (Grow.laid (o := .dK []) R.ex hp) (R.deck.laid hp)
    refine ⟨σ, F, _, R1, q, fun x qx F2 H2 v g2 d2 r2 => ?_⟩
    have fp : F p = none := R.ex.free hp
    have nw : ¬ InW B.W p := fun w => (R.deck.w w).2 hp
    have e2 : H2 p = some (.dK []) := g2.hh p _ upd_same nw (by intro _ z; cases z)
    have g := (Grow.laid (W := B.W) (o := .dK []) R.ex hp).trans g2
    have f2 : F2 p = none := g2.new p fp (by rw [upd_same]; exact Option.some_ne_none _)
    have em : mergeK [] [(k, v)] = [(k, v)] := by simp [mergeK, putK]
    refine ⟨e2, [(k, v)], rfl, by simp, ?_⟩
    rw [em]
    have gw := g.write (o := .dK [(k, v)]) hp f2
    have dw := R.deck.write (o := .dK [(k, v)]) d2 hp fun φ z => by rw [e2] at z; cases z
    exact kf _ qx _ _ _ (gw.freeze hp f2 upd_same) (R.deck.freeze dw hp) (.dic upd_same (.cons (r2.mono (same_new f2)) .nil))⟩
/-! ### x, y = [..], e -/
@[simp] def gParL (i j : Nat) (fs : GA) (fb : GE) (E : Ed) (σ : List SV) : Prop := fs σ fun ds => fb σ fun y => E.nx ((σ.set i (.ol ds)).set j (.d y))
theorem sd_parL {i j : Nat} {x y : Str} {px py pt : Pos} {kt k2 pt2} {fs : GA} (hc : X.calm = true) (hN : X.N.Nodup) (hi : X.N[i]? = some x) (hj : X.N[j]? = some y) (hij : i ≠ j)
    (hx : X.env.scope.names.lookup x = some .local) (hy : X.env.scope.names.lookup y = some .local) (ha : FD B X a fs) (hb : ED B X b fb)
    (hw : swappedStores [.Tuple [.Name x px, .Name y py] kt pt] (.Tuple [a, b] k2 pt2) X.env = pure (some [x, y]))
    (hs : swapsWithSole [.Tuple [.Name x px, .Name y py] kt pt] (.Tuple [a, b] k2 pt2) pos.line X.env = pure false := by rfl)
    (h1 : starEach [a, b] X.env = (false, eval a X.env) :: starEach [b] X.env := by rfl) (h2 : starEach [b] X.env = (false, eval b X.env) :: starEach [] X.env := by rfl) :
    SD B X (.Assign [.Tuple [.Name x px, .Name y py] kt pt] (.Tuple [a, b] k2 pt2) pos) (gParL i j fs fb) :=
  ⟨ps_imp (ps_par hc hN hi hj hij hx hy (pa_cons ha.run (pa_cons hb.run pa_nil h2) h1) hw hs) fun Dn s H ⟨σ, F, E, R, q, k⟩ => ⟨σ, F, _, R, q, fun ds qd F1 H1 p vs g1 d1 hp fp ep rs => by
    refine ⟨σ, F1, _, R.grow g1 d1, qd, fun y qy F2 H2 v g2 d2 r2 => ?_⟩
    have nw : ¬ InW B.W p := fun w => (R.deck.w w).2 hp
    have e2 : H2 p = some (.lst vs) := g2.hh p _ ep nw (by intro _ z; cases z)
    have f2 : F2 p = none := g2.new p fp (by rw [ep]; exact Option.some_ne_none _)
    have R2 := R.setNew (i := i) (x := .ol ds) (g1.trans g2) d2 hp f2 ⟨rfl, vs, e2, rs.mono g2.ff⟩
    exact ⟨_, _, rfl, k.nx _ _ F2 H2 (g1.trans g2).ff (R2.set r2) qy⟩⟩⟩
end
/-! ### the promise of nothing -/
section
variable {P : Program} {w : World} {K : PySem.W.Frag} {mg : Str → Option Value} {base : Heap} {T : List (Addr × Str)} {x : Str} {st : Stmt} {f : Addr} {fd : FuncData} {k : Nat} {ps : List Str}
theorem okNone (hm : mg x = some (.ref f)) (F : Fun K x x st f fd) : OkD P w K mg base T x st k ps (fun _ _ _ _ => False) :=
  ⟨⟨f, fd, hm, F, ⟨fun vs H Q E ⟨_, _, _, _, _, _, _, _, z, _⟩ => z.elim, fun A outer s H args us vs Q E _ _ _ _ ⟨_, _, _, _, _, _, _, _, z, _⟩ => z.elim⟩⟩⟩
end
end ND

/-! ND24: the end of a law whose defs make lambdas -/
namespace ND
open PySem PySem.Spec L2 PyProof.Rows
open PyProof.Rows (envOfC)
/-- the script and the tables are tracked -/
def tabH (K : PySem.W.Frag) (a : Addr) (o : Obj) (ns : List Int) (ts : List Addr) : Hp := fun b => if b ∈ ts then some (.tbl #[]) else scH K a o ns b
section
variable {K : PySem.W.Frag} {a b : Addr} {o : Obj} {ns : List Int} {ts : List Addr} {u : HO}
theorem tabH_in (h : b ∈ ts) : tabH K a o ns ts b = some (.tbl #[]) := if_pos h
theorem tabH_out (h : b ∉ ts) : tabH K a o ns ts b = scH K a o ns b := if_neg h
theorem tabH_some (h : tabH K a o ns ts b = some u) : (b ∈ ts ∧ u = .tbl #[]) ∨ (b ∉ ts ∧ b = a ∧ K.lookup a = none ∧ u = .frz o (.lst (ns.map V.int))) := by
  by_cases z : b ∈ ts
  · rw [tabH_in z] at h
    cases h
    exact .inl ⟨z, rfl⟩
  · rw [tabH_out z] at h
    exact .inr ⟨z, scH_some h⟩
end
theorem run_lawT {P : Program} {w : World} {K : PySem.W.Frag} {mg mb : Str → Option Value} {k : Nat} {fa a : Addr} {fd : FuncData} {x : Str} {sp : Sp} {t : Shared} {vs : List Value} {ns : List Int} {cs : List (Addr × Addr)}
    (KX : K.In t.heap) (nsM : t.heap.Ns mainGlobals mg) (nsB : t.heap.Ns builtinsNs mb) (bb : ∀ y : Str, y ≠ "__name__" → mb y = bootBuiltins y) (lim : t.heap.NoLimit) (gens : t.gens = #[])
    (tabs : ∀ p ∈ cs, t.heap.get? p.2 = some { cls := .none, data := .fields #[] }) (notK : ∀ p ∈ cs, K.lookup p.2 = none) (codes : ∀ p ∈ cs, PySem.W.CodeHd t.heap p.1 p.2)
    (blt : ∃ (bm : Addr) (ob : Obj), mg "__builtins__" = some (.ref bm) ∧ bm ≠ builtinsNs ∧ t.heap.get? bm = some ob ∧ ob.cls = .type "module" ∧ ob.dict = some builtinsNs ∧ ob.data = .plain)
    (ha : t.heap.get? a = some { cls := .type "list", data := .seq vs.toArray }) (hi : IntsAre vs ns) (hl : ns.length ≤ sizeLine) (room : Room k callerA)
    (G : ∀ base : Heap, K.In base → base.Ns mainGlobals mg → (∀ p ∈ cs, LamX.TabB base mg p.1 p.2) → FnG P w K mg base k fa fd [x] sp) (bind : ∀ (s : Shared) (u : Value), BindsTo s fd ⟨[u], []⟩ [(x, u)])
    (ask : ∀ H : Hp, SqL K H a (ns.map V.int) → (∀ p ∈ cs, H p.2 = some (.tbl #[])) → (∀ b ps, H b = some (.tbl ps) → ∃ p ∈ cs, b = p.2) → sp [.ref a] H (fun v _ => v = .bl true) fun _ _ _ => False) :
    codeAny (model P w) callerA (.call (.ref fa) ⟨[.ref a], []⟩) (fun r s' => r = .ok (.ret (.bool true)) ∧ OldK t.heap s'.heap ∧ s'.os = t.os ∧ AllBare s'.gens) t := by
  have vals := vals_ints hi
  have sameLen := hi.length
  have memT : ∀ p ∈ cs, p.2 ∈ cs.map (·.2) := fun p hp => List.mem_map.mpr ⟨p, hp, rfl⟩
  have isT : ∀ b ∈ cs.map (·.2), t.heap.get? b = some { cls := .none, data := .fields #[] } := fun b hb => by
    obtain ⟨p, hp, rfl⟩ := List.mem_map.mp hb
    exact tabs p hp
  have aT : a ∉ cs.map (·.2) := fun z => by
    have q := isT a z
    rw [ha] at q
    cases congrArg Obj.data (Option.some.inj q)
  generalize hH : tabH K a { cls := .type "list", data := .seq vs.toArray } ns (cs.map (·.2)) = H
  have inH : ∀ {b : Addr} {u : HO}, H b = some u → (b ∈ cs.map (·.2) ∧ u = .tbl #[]) ∨ (b ∉ cs.map (·.2) ∧ b = a ∧ K.lookup a = none ∧ u = .frz { cls := .type "list", data := .seq vs.toArray } (.lst (ns.map V.int))) := fun e => by
    rw [← hH] at e
    exact tabH_some e
  have atT : ∀ p ∈ cs, H p.2 = some (.tbl #[]) := fun p hp => by
    rw [← hH]
    exact tabH_in (memT p hp)
  have seqA : SqL K H a (ns.map V.int) := by
    cases ek : K.lookup a with
    | none =>
      refine .inl (.inr ⟨{ cls := .type "list", data := .seq vs.toArray }, ?_⟩)
      rw [← hH, tabH_out aT]
      unfold scH
      rw [if_pos ⟨rfl, ek⟩]
    | some o =>
      have same := KX a o ek
      rw [ha] at same
      cases same
      exact .inr ⟨_, vs.toArray, _, ek, rfl, rfl, rfl, by rw [List.size_toArray, sameLen]; exact hl, by simpa using vals⟩
  have okH : HOk P w H t.heap := fun b u e => by
    rcases inH e with ⟨z, rfl⟩ | ⟨_, rfl, _, rfl⟩
    · exact isT b z
    · exact ⟨ha, by rw [List.length_map]; exact hl, vs, _, vals, ha⟩
  -- what is no list, no table, is not tracked
  have plain : ∀ {b : Addr} {o : Obj}, t.heap.get? b = some o → (∀ xs n, o.data ≠ .seq xs n) → o.data ≠ .fields #[] → H b = none := fun {b o} e n1 n2 => by
    cases q : H b with
    | none => rfl
    | some u =>
      rcases inH q with ⟨z, _⟩ | ⟨_, rfl, _, _⟩
      · rw [isT b z] at e
        cases e
        exact absurd rfl n2
      · rw [ha] at e
        cases e
        exact absurd rfl (n1 _ _)
  have stays : ∀ {b : Addr} {o : Obj}, t.heap.get? b = some o → H b = none → (hidT t.heap H).get? b = some o := fun e n => hidT_get e n
  have nsStays : ∀ {b : Addr} {m : Str → Option Value}, t.heap.Ns b m → (hidT t.heap H).Ns b m := fun {b m} ⟨o, es, ep, e, dt, r⟩ =>
    ⟨o, es, ep, stays e (plain e (fun xs n z => by rw [dt] at z; cases z) fun z => by rw [dt] at z; cases z), dt, r⟩
  have kIn : K.In (hidT t.heap H) := fun b o e => stays (KX b o e) (by
    cases q : H b with
    | none => rfl
    | some u =>
      rcases inH q with ⟨z, _⟩ | ⟨_, rfl, n, _⟩
      · obtain ⟨p, hp, rfl⟩ := List.mem_map.mp z
        rw [notK p hp] at e
        cases e
      · rw [n] at e
        cases e)
  obtain ⟨mc, l1, l2⟩ := lim
  have tb : ∀ p ∈ cs, LamX.TabB (hidT t.heap H) mg p.1 p.2 := fun p hp => by
    have tp := tabs p hp
    have notG : mainGlobals ≠ p.2 := fun z => by
      obtain ⟨o, es, ep, e, dt, _⟩ := nsM
      rw [z, tp] at e
      cases e
      cases dt
    refine ⟨?_, ?_, notG⟩
    · obtain ⟨o, us, f1, f2, f3, f4, f5, f6, f7, g1, g2, g3, rest⟩ := codes p hp
      exact ⟨o, us, f1, f2, f3, f4, f5, f6, f7, stays g1 (plain g1 (fun xs n z => by rw [g3] at z; cases z) fun z => by
        rw [g3] at z
        cases z
        have := rest.1
        simp at this), g2, g3, rest⟩
    · obtain ⟨bm, ob, b1, b2, b3, b4, b5, b6⟩ := blt
      refine ⟨bm, ob, b1, b2, fun z => ?_, fun z => ?_, stays b3 (plain b3 (fun xs n z => by rw [b6] at z; cases z) fun z => by rw [b6] at z; cases z), b4, b5, b6⟩
      · obtain ⟨o, es, ep, e, dt, _⟩ := nsM
        rw [z, e] at b3
        cases b3
        rw [dt] at b6
        cases b6
      · rw [z, tp] at b3
        cases b3
        cases b6
  have env : Env0 P w K mg (hidT t.heap H) callerA [] t H := ⟨rfl, ⟨kIn, nsStays nsM, ⟨mb, nsStays nsB, bb⟩, mc, nsStays l1, l2⟩, fun b o e => of_hidT e, Nat.le_of_eq (hidT_size _ _), trivial, fun b hb => (nomatch hb), okH, .of_eq gens⟩
  have run := (G _ kIn (nsStays nsM) tb).run callerA [] t H ⟨[.ref a], []⟩ [.ref a] [.ref a] _ _ rfl room env (bind t (.ref a)) (.cons rfl .nil) (ask H seqA atT fun b ps e => by
    rcases inH e with ⟨z, _⟩ | ⟨_, _, _, z⟩
    · obtain ⟨p, hp, rfl⟩ := List.mem_map.mp z
      exact ⟨p, hp, rfl⟩
    · cases z)
  refine codeAny_mono run fun r s' h => ?_
  rcases r with e | fl
  · obtain ⟨_, _, _, _, _, _, _, _, _, _, _, _, no⟩ := (show L2.CX P w [] H t (fun _ _ _ => False) e s' from h)
    exact no.elim
  · cases fl with
    | ret u =>
      obtain ⟨v, H', os, bare, un, hok', r', q⟩ := h
      have q' : v = .bl true := q
      subst q'
      obtain rfl : u = Value.bool true := r'
      have grown : ∀ p ∈ cs, ∃ more : Array Value, s'.heap.get? p.2 = some { cls := .none, data := .fields more } := fun p hp => by
        obtain ⟨more, z⟩ := un.tbls p.2 #[] (atT p hp)
        exact ⟨_, hok' p.2 _ z⟩
      have same : ∀ b o, b ∉ cs.map (·.2) → t.heap.get? b = some o → s'.heap.get? b = some o := fun b o nb e => by
        cases q : H b with
        | none => exact un.keep b o e q (fun z => (nomatch z)) (by simp)
        | some u =>
          rcases inH q with ⟨z, _⟩ | ⟨_, rfl, _, rfl⟩
          · exact absurd z nb
          · obtain ⟨g1, _⟩ := hok' b _ (un.frzs b _ _ q)
            rw [ha] at e
            cases e
            exact g1
      refine ⟨rfl, ⟨fun b o e => ?_, fun b o e => ?_⟩, os, bare⟩
      · by_cases hb : b ∈ cs.map (·.2)
        · obtain ⟨p, hp, rfl⟩ := List.mem_map.mp hb
          obtain ⟨more, hm⟩ := grown p hp
          rw [tabs p hp] at e
          cases e
          exact .inr (.inl ⟨((codes p hp).tab (tabs p hp)).isCodeTable, rfl, #[], more, rfl, by rw [Array.empty_append]; exact hm⟩)
        · exact .inl (same b o hb e)
      · by_cases hb : b ∈ cs.map (·.2)
        · obtain ⟨p, hp, rfl⟩ := List.mem_map.mp hb
          obtain ⟨more, hm⟩ := grown p hp
          exact ⟨_, hm⟩
        · exact ⟨o, same b o hb e⟩
    | next => exact False.elim h
    | brk => exact False.elim h
    | cont => exact False.elim h
theorem walkGT {l : PySem.W.OpenLaw} {k : Nat} {q : Program} {loose : List Str} {XP : (Str → Option Value) → Heap → Prop} {YP : World → Heap → Prop} {d : DefRec} {K : Params → PySem.W.Frag} {x : Str}
    (hn : l.most = some 63) (hdf : d.params.defaults = []) (hr : Room k callerA) (hY : ∀ (w : World) (h : Heap), YP w h → (K w.params).In h)
    (G : ∀ (w : World) (mg mb : Str → Option Value) (fa : Addr) (h : Heap), YP w h → (K w.params).In h → h.Ns mainGlobals mg → mg d.name = some (.ref fa) →
      (∀ (d : DefRec) (x : Str) (c Pt : Addr), (recsOf q).find? (fun e => e.name == x) = some d → PySem.W.tabIn (K w.params) x = some (c, Pt) → PySem.W.CodeHd h c Pt ∧ h.get? Pt = some { cls := .none, data := .fields #[] }) →
      ∃ (fd : FuncData) (T : List (Addr × Addr × Str)), (∀ p ∈ T, h.get? p.2.1 = some { cls := .none, data := .fields #[] } ∧ (K w.params).lookup p.2.1 = none ∧ PySem.W.CodeHd h p.1 p.2.1) ∧ (∀ (s : Shared) (u : Value), BindsTo s fd ⟨[u], []⟩ [(x, u)]) ∧
        ∀ base : Heap, (K w.params).In base → base.Ns mainGlobals mg → (∀ p ∈ T, LamX.TabB base mg p.1 p.2.1) → FnG l.prog w (K w.params) mg base k fa fd [x] (spLaw (K w.params) (T.map fun p => (p.2.1, p.2.2)))) :
    PySem.W.WalkO q loose XP YP l.row.toRowW d [] (fun f vs => PySem.call f vs) := by
  refine Att.attach_callB hn hdf fun w s₀ t mg mb fa o pm cd doc a vs ns Gd Y ho hd hcd hmg hobj hints hlen hbits hg => ?_
  have inK := hY w _ Y
  obtain ⟨fd, T, hT, bind, run⟩ := G w mg mb fa _ Y inK Gd.T.g hmg fun d x c Pt h1 h2 => PySem.W.tab_of Gd.T inK h1 h2
  have up : ∀ p ∈ T.map (fun p => (p.1, p.2.1)), ∃ z ∈ T, p = (z.1, z.2.1) := fun p hp => by
    obtain ⟨z, hz, e⟩ := List.mem_map.mp hp
    exact ⟨z, hz, e.symm⟩
  refine run_lawT (cs := T.map fun p => (p.1, p.2.1)) inK Gd.T.g Gd.T.b Gd.T.builtins Gd.T.nolimit hg (fun p hp => ?_) (fun p hp => ?_) (fun p hp => ?_) Gd.T.bmain hobj hints (Nat.le_trans hlen (by decide)) hr (fun base b1 b2 b3 => run base b1 b2 fun p hp => b3 (p.1, p.2.1) (List.mem_map.mpr ⟨p, hp, rfl⟩)) bind
    fun H hS hA hO => ⟨a, ns, rfl, hS, hlen, fun z hz => ?_, fun b ps e => ?_, fun _ => rfl⟩
  · obtain ⟨z, hz, rfl⟩ := up p hp
    exact (hT z hz).1
  · obtain ⟨z, hz, rfl⟩ := up p hp
    exact (hT z hz).2.1
  · obtain ⟨z, hz, rfl⟩ := up p hp
    exact (hT z hz).2.2
  · obtain ⟨p, hp, rfl⟩ := List.mem_map.mp hz
    exact hA (p.1, p.2.1) (List.mem_map.mpr ⟨p, hp, rfl⟩)
  · obtain ⟨p, hp, rfl⟩ := hO b ps e
    obtain ⟨z, hz, rfl⟩ := up p hp
    exact ⟨(z.2.1, z.2.2), List.mem_map.mpr ⟨z, hz, rfl⟩, rfl⟩
end ND

/-! ND25: defs that make lambdas (their code object is known); small rules for the plain laws -/
namespace ND
open PySem PySem.Spec L2
open PyProof.Rows (envOfC)
/-- the def st stands at f, its code object is cdv -/
structure FunC (K : PySem.W.Frag) (x : Str) (st : Stmt) (f : Addr) (cdv : Value) : Prop where
  ex : ∃ (oc kV doc pm ct : Value) (od an : Option Addr) (osl : Array (Option Value)), K.lookup f = some ⟨oc, od, .func (PySem.W.fnOf x x (defArgs st) (defBody st) (defScope st) .none kV doc pm an cdv ct), osl⟩ ∧ PySem.W.codeIn K cdv x = true
  kp : PySem.W.keepIn K (.ref f) = true
section
variable {P : Program} {w : World} {K : PySem.W.Frag} {mg : Str → Option Value} {base : Heap} {x : Str} {st : Stmt} {f : Addr} {N ps : List Str} {k : Nat} {sp : DSp} {g : WD → (Er → Prop) → GS} {T : List (Addr × Str)} {cdv : Value}
theorem okGc (hm : mg x = some (.ref f)) (F : FunC K x st f cdv) (S : FnScope N ps (defScope st)) (hlen : ∀ W ds Q R, sp W ds Q R → ds.length = ps.length)
    (body : ∀ (A : Around) (outer : List Env) (s : Shared) (H : Hp) (E : XK) (W : WD) (F : Hp) (R : Er → Prop), (A.deeper (envOfC x (defScope st) s.heap.objs.size f cdv)).guards = some [] → Room k (A.deeper (envOfC x (defScope st) s.heap.objs.size f cdv)) → FinE ⟨W, T⟩ ⟨K, mg⟩ F H R E →
      PassesOwn (model P w) (cxD P w K mg base N x st f cdv A outer s H E).A (cxD P w K mg base N x st f cdv A outer s H E).env (cxD P w K mg base N x st f cdv A outer s H E).xe →
      Passes (L2.CX P w) (cxD P w K mg base N x st f cdv A outer s H E) E → SDs ⟨⟨W, T⟩, F, H⟩ (cxD P w K mg base N x st f cdv A outer s H E) (defBody st) (g W R))
    (law : ∀ W ds Q R, sp W ds Q R → g W R (endsD Q) (startD N.length ds)) : OkG P w K mg base T x st (k + 1) ps sp := by
  obtain ⟨oc, kV, doc, pm, ct, od, an, osl, lk, hcd⟩ := F.ex
  refine ⟨⟨f, _, hm, fun_mk lk hcd F.kp, fn_ofG lk hcd S (fun vs H Q E ⟨W, F, ds, Qd, Rd, h1, h2, h3, h4, _⟩ => h3.length.trans (hlen _ _ _ _ h4)) fun A outer s H vs Q E hG hr ⟨W, F, ds, Qd, Rd, h1, h2, h3, h4, h5, h6⟩ => ?_⟩⟩
  exact body_run (body A outer s H E W F Rd hG hr h6 (passes_of rfl) (passes_call (takes_of rfl rfl rfl rfl) fun _ _ _ _ z => z)) h1 h2 h3 (law W ds Qd Rd h4) h5
end
section
variable {B : Bs} {X : Cx} {e : Expr} {pos : Pos}
theorem sd_appE {k : Nat} {x : Str} {px apos cpos : Pos} {fe : GE} (hv : PE X (.Name x px) (tVar k)) (ha : ED B X e fe) (hbase : attributeBase (.Name x px) "append" X.env (eval (.Name x px) X.env) = eval (.Name x px) X.env := by rfl)
    (hfew : ((backTo cpos (starEach [e] X.env)).all (fun x => !x.1) && (backToKw cpos (keywordEach [] X.env)).all (fun x => x.1.isSome) && decide ([e].length + ([] : List Keyword).length + (if ([] : List Keyword).isEmpty then 0 else 1) < 30)) = true := by rfl)
    (hline : (apos.endLine == cpos.line) = true := by rfl) (hs1 : starEach [e] X.env = (false, eval e X.env) :: starEach [] X.env := by rfl) (hplain : (backTo cpos (starEach [] X.env)).any (·.1) = false := by rfl)
    (hs : swapsWith (.Call (.Attribute (.Name x px) "append" apos) [e] [] cpos) none pos.line X.env = pure false := by rfl) : SD B X (.Expr (.Call (.Attribute (.Name x px) "append" apos) [e] [] cpos) pos) (gApp k fe) :=
  sd_app (pe_bm PySem.F.plainAttrs_list PySem.F.slot_list_append PySem.F.type_list_append mt_append hv (pa_cons ha.run pa_nil hs1) hbase hfew hline hs1 hplain) hs
end
end ND

/-! ND26: plain facts that many laws need: sizes, draws, digits, data that can be shown -/
namespace ND
open PySem PySem.Spec L2
abbrev dkD (d : Addr) : D := .opq (.ref d)
def Sz (n : Nat) (i : Int) : Prop := i.natAbs < 2 ^ n
instance (n : Nat) (i : Int) : Decidable (Sz n i) := inferInstanceAs (Decidable (_ < _))
theorem Sz.mono {n m : Nat} {i : Int} (h : Sz n i) (e : n ≤ m) : Sz m i := Nat.lt_of_lt_of_le h (Nat.pow_le_pow_right (by decide) e)
theorem Sz.mul {n m : Nat} {i j : Int} (h : Sz n i) (h' : Sz m j) : Sz (n + m) (i * j) := by
  show (i * j).natAbs < 2 ^ (n + m)
  rw [Int.natAbs_mul, Nat.pow_add]
  exact Nat.mul_lt_mul'' h h'
theorem Sz.add {n : Nat} {i j : Int} (h : Sz n i) (h' : Sz n j) : Sz (n + 1) (i + j) := by
  have h1 : i.natAbs < 2 ^ n := h
  have h2 : j.natAbs < 2 ^ n := h'
  show (i + j).natAbs < 2 ^ (n + 1)
  rw [Nat.pow_succ]
  omega
theorem Sz.neg {n : Nat} {i : Int} (h : Sz n i) : Sz n (-i) := by
  show (-i).natAbs < 2 ^ n
  rw [Int.natAbs_neg]
  exact h
theorem Sz.sub {n : Nat} {i j : Int} (h : Sz n i) (h' : Sz n j) : Sz (n + 1) (i - j) := by
  rw [Int.sub_eq_add_neg]
  exact h.add h'.neg
theorem Sz.log {n : Nat} {i : Int} (h : Sz n i) : i.natAbs.log2 ≤ n := by
  by_cases e : i.natAbs = 0
  · rw [e]
    simp
  · exact Nat.le_of_lt ((Nat.log2_lt e).mpr h)
theorem Sz.ok {n m : Nat} {i j : Int} (h : Sz n i) (h' : Sz m j) (e : n + m < 1000000) : MulOk i j := by
  have := h.log
  have := h'.log
  show i.natAbs.log2 + j.natAbs.log2 < 1000000
  omega
theorem dr {d l : Addr} {k : Int} {Q : D → Prop} {R : Er → Prop} (h1 : 0 < k) (h2 : k < 2 ^ 62) (q : ∀ r, 0 ≤ r → r < k → Q (.int r)) : spDraw (some (d, l)) [dkD d, .int k] Q R := ⟨d, l, k, rfl, rfl, h1, h2, q⟩
theorem e62 : (2 : Int) ^ 62 = 4611686018427387904 := by decide
theorem Sz.small {i : Int} (h1 : -1000 ≤ i) (h2 : i ≤ 1000) : Sz 20 i := by
  show i.natAbs < 2 ^ 20
  omega
theorem sz_nat {n : Nat} (h : n ≤ 1000) : Sz 20 (n : Int) := Sz.small (by omega) (by omega)
theorem cat_nines (acc : Array Nat) : ∀ m : Nat, ((List.replicate m (Str.ofString "9").cps).foldl (· ++ ·) acc).toList = acc.toList ++ List.replicate m 57
  | 0 => by simp
  | m + 1 => by
    rw [List.replicate_succ, List.foldl_cons, cat_nines (acc ++ (Str.ofString "9").cps) m]
    have e : (Str.ofString "9").cps.toList = [57] := by decide +kernel
    rw [Array.toList_append, e, List.replicate_succ, List.append_assoc]
    rfl
theorem digits_lt : ∀ (cs : List Nat) (a : Nat), NumText.AllDigits cs → cs.foldl (fun acc c => acc * 10 + (c - 48)) a < (a + 1) * 10 ^ cs.length
  | [], a, _ => by simp
  | c :: cs, a, h => by
    have hc := h.head
    have ih := digits_lt cs (a * 10 + (c - 48)) h.tail
    rw [List.foldl_cons, List.length_cons]
    refine Nat.lt_of_lt_of_le ih ?_
    rw [Nat.pow_succ, Nat.mul_comm (10 ^ cs.length) 10, ← Nat.mul_assoc]
    exact Nat.mul_le_mul_right _ (by omega)
theorem nine_list {k : Nat} (hk : 1 ≤ k) : (Txt.mul (Str.ofString "9") (k : Int)).cps.toList = List.replicate k 57 := by
  unfold Txt.mul
  rw [if_neg (by omega)]
  split
  · rename_i h
    have e0 : (Str.ofString "9").length = 1 := by decide +kernel
    rw [e0] at h
    simp at h
    have : k = 1 := by omega
    subst this
    decide +kernel
  · rw [Int.toNat_natCast]
    show ((List.replicate k (Str.ofString "9").cps).foldl (· ++ ·) #[]).toList = _
    rw [cat_nines]
    simp
theorem nine_text {k : Nat} (hk : 1 ≤ k) (h : k ≤ 1020) : ∃ i : Int, intText? (Txt.mul (Str.ofString "9") (k : Int)) = some i ∧ (Txt.mul (Str.ofString "9") (k : Int)).length ≤ sizeLine ∧ 0 ≤ i ∧ i < 10 ^ k := by
  have e := nine_list hk
  have hl : (Txt.mul (Str.ofString "9") (k : Int)).length = k := by
    show (Txt.mul (Str.ofString "9") (k : Int)).cps.size = k
    rw [← Array.length_toList, e, List.length_replicate]
  have hd : NumText.AllDigits (Txt.mul (Str.ofString "9") (k : Int)).cps.toList := by
    rw [e]
    intro c hc
    rw [List.eq_of_mem_replicate hc]
    omega
  have hne : (Txt.mul (Str.ofString "9") (k : Int)).cps.toList ≠ [] := by
    rw [e]
    intro z
    have := congrArg List.length z
    simp at this
    omega
  have ht := intText_digits hd hne (by rw [hl]; omega)
  refine ⟨_, ht, by rw [hl]; exact Nat.le_trans h (by decide), Int.natCast_nonneg _, ?_⟩
  have hv := digits_lt _ 0 hd
  have el : (Txt.mul (Str.ofString "9") (k : Int)).cps.toList.length = k := by rw [e, List.length_replicate]
  rw [el, Nat.zero_add, Nat.one_mul] at hv
  have h2 : ((10 : Int) ^ k) = (((10 : Nat) ^ k : Nat) : Int) := by simp
  rw [h2]
  exact Int.ofNat_lt.mpr hv
theorem ten_sz {k : Nat} {i : Int} (h0 : 0 ≤ i) (h : i < 10 ^ (6 * k)) : Sz (20 * k) i := by
  have e : (10 : Nat) ^ (6 * k) ≤ 2 ^ (20 * k) := by
    rw [Nat.pow_mul, Nat.pow_mul]
    exact Nat.pow_le_pow_left (by decide) k
  show i.natAbs < 2 ^ (20 * k)
  have h2 : ((10 : Int) ^ (6 * k)) = (((10 : Nat) ^ (6 * k) : Nat) : Int) := by simp
  rw [h2] at h
  omega

theorem rps_all (n : Nat) : ∀ xs : List D, rps n xs = xs.all (rp n)
  | [] => by simp [rps]
  | x :: xs => by simp [rps, rps_all n xs]
mutual
theorem rp_mono : ∀ (n m : Nat) (d : D), n ≤ m → rp n d = true → rp m d = true
  | n, m, .non, _, _ => by cases m <;> simp [rp]
  | n, m, .bl b, _, _ => by cases m <;> simp [rp]
  | n, m, .int b, _, _ => by cases m <;> simp [rp]
  | n, m, .str x, _, h => by cases n <;> cases m <;> simpa [rp] using h
  | 0, m, .tup xs, _, h => by simp [rp] at h
  | 0, m, .lst xs, _, h => by simp [rp] at h
  | 0, m, .dic xs, _, h => by simp [rp] at h
  | n + 1, 0, .tup xs, e, h => absurd e (by omega)
  | n + 1, 0, .lst xs, e, h => absurd e (by omega)
  | n + 1, 0, .dic xs, e, h => absurd e (by omega)
  | n + 1, m + 1, .tup xs, e, h => by
    simp only [rp] at h ⊢
    exact rps_mono n m xs (by omega) h
  | n + 1, m + 1, .lst xs, e, h => by
    simp only [rp] at h ⊢
    exact rps_mono n m xs (by omega) h
  | n + 1, m + 1, .dic xs, e, h => by
    simp only [rp] at h ⊢
    exact rpk_mono n m xs (by omega) h
  | n, m, .obj _ _, _, h => by cases n <;> simp [rp] at h
  | n, m, .opq _, _, h => by cases n <;> simp [rp] at h
theorem rps_mono : ∀ (n m : Nat) (d : List D), n ≤ m → rps n d = true → rps m d = true
  | n, m, [], _, _ => by simp [rps]
  | n, m, x :: xs, e, h => by
    simp only [rps, Bool.and_eq_true] at h ⊢
    exact ⟨rp_mono n m x e h.1, rps_mono n m xs e h.2⟩
theorem rpk_mono : ∀ (n m : Nat) (d : List (Key × D)), n ≤ m → rpk n d = true → rpk m d = true
  | n, m, [], _, _ => by simp [rpk]
  | n, m, (.inl k, x) :: xs, e, h => by
    simp only [rpk, Bool.and_eq_true] at h ⊢
    exact ⟨rp_mono n m x e h.1, rpk_mono n m xs e h.2⟩
  | n, m, (.inr k, x) :: xs, e, h => by
    simp only [rpk, Bool.and_eq_true] at h ⊢
    exact ⟨⟨h.1.1, rp_mono n m x e h.1.2⟩, rpk_mono n m xs e h.2⟩
end
theorem rp_ty {n : Nat} {x : D} (h : rp n x = true) : (tyD x).isSome = true := by
  cases x <;> simp [tyD] <;> cases n <;> simp [rp] at h
mutual
/-- integers within are below m -/
def sm (m : Nat) : D → Bool
  | .int i => decide (i.natAbs < m)
  | .tup xs => sms m xs
  | .lst xs => sms m xs
  | .dic xs => smk m xs
  | _ => true
def sms (m : Nat) : List D → Bool
  | [] => true
  | x :: xs => sm m x && sms m xs
def smk (m : Nat) : List (Key × D) → Bool
  | [] => true
  | (.inl k, x) :: xs => decide (k.natAbs < m) && sm m x && smk m xs
  | (.inr k, x) :: xs => sm m x && smk m xs
end
theorem sms_all (n : Nat) : ∀ xs : List D, sms n xs = xs.all (sm n)
  | [] => by simp [sms]
  | x :: xs => by simp [sms, sms_all n xs]
mutual
theorem sm_mono : ∀ (n m : Nat) (d : D), n ≤ m → sm n d = true → sm m d = true
  | n, m, .non, _, _ => by simp [sm]
  | n, m, .bl b, _, _ => by simp [sm]
  | n, m, .int b, e, h => by
    simp only [sm, decide_eq_true_eq] at h ⊢
    omega
  | n, m, .str x, _, h => by simp [sm]
  | n, m, .tup xs, e, h => by
    simp only [sm] at h ⊢
    exact sms_mono n m xs e h
  | n, m, .lst xs, e, h => by
    simp only [sm] at h ⊢
    exact sms_mono n m xs e h
  | n, m, .dic xs, e, h => by
    simp only [sm] at h ⊢
    exact smk_mono n m xs e h
  | n, m, .obj _ _, _, h => by simp [sm]
  | n, m, .opq _, _, h => by simp [sm]
theorem sms_mono : ∀ (n m : Nat) (d : List D), n ≤ m → sms n d = true → sms m d = true
  | n, m, [], _, _ => by simp [sms]
  | n, m, x :: xs, e, h => by
    simp only [sms, Bool.and_eq_true] at h ⊢
    exact ⟨sm_mono n m x e h.1, sms_mono n m xs e h.2⟩
theorem smk_mono : ∀ (n m : Nat) (d : List (Key × D)), n ≤ m → smk n d = true → smk m d = true
  | n, m, [], _, _ => by simp [smk]
  | n, m, (.inl k, x) :: xs, e, h => by
    simp only [smk, Bool.and_eq_true, decide_eq_true_eq] at h ⊢
    exact ⟨⟨Nat.lt_of_lt_of_le h.1.1 e, sm_mono n m x e h.1.2⟩, smk_mono n m xs e h.2⟩
  | n, m, (.inr k, x) :: xs, e, h => by
    simp only [smk, Bool.and_eq_true] at h ⊢
    exact ⟨sm_mono n m x e h.1, smk_mono n m xs e h.2⟩
end
mutual
theorem sm_big : ∀ (d : D), sm (10 ^ 4300) d = true → bigOk (toPy d) = true
  | .non, _ => by simp [toPy, bigOk]
  | .bl b, _ => by simp [toPy, bigOk]
  | .int b, h => by simpa only [sm, toPy, bigOk] using h
  | .str x, h => by simp [toPy, bigOk]
  | .tup xs, h => by
    simp only [sm, toPy, bigOk] at h ⊢
    exact sms_big xs h
  | .lst xs, h => by
    simp only [sm, toPy, bigOk] at h ⊢
    exact sms_big xs h
  | .dic xs, h => by
    simp only [sm, toPy, bigOk] at h ⊢
    exact smk_big xs h
  | .obj _ _, h => by simp [toPy, bigOk]
  | .opq _, h => by simp [toPy, bigOk]
theorem sms_big : ∀ (d : List D), sms (10 ^ 4300) d = true → bigAll (toPys d) = true
  | [], _ => by simp [toPys, bigAll]
  | x :: xs, h => by
    simp only [sms, toPys, bigAll, Bool.and_eq_true] at h ⊢
    exact ⟨sm_big x h.1, sms_big xs h.2⟩
theorem smk_big : ∀ (d : List (Key × D)), smk (10 ^ 4300) d = true → bigKv (toPyK d) = true
  | [], _ => by simp [toPyK, bigKv]
  | (.inl k, x) :: xs, h => by
    simp only [smk, toPyK, bigKv, bigOk, Bool.and_eq_true] at h ⊢
    exact ⟨⟨h.1.1, sm_big x h.1.2⟩, smk_big xs h.2⟩
  | (.inr k, x) :: xs, h => by
    simp only [smk, toPyK, bigKv, bigOk, Bool.and_eq_true] at h ⊢
    exact ⟨⟨trivial, sm_big x h.1⟩, smk_big xs h.2⟩
end
/-- data at most n deep, integers below 2 ^ m, a repr of at most s signs -/
structure Pok (n m s : Nat) (x : D) : Prop where
  r : rp n x = true
  b : sm (2 ^ m) x = true
  z : rsz x ≤ s
theorem Pok.up {n m s n' m' s' : Nat} {x : D} (h : Pok n m s x) (e1 : n ≤ n') (e2 : m ≤ m') (e3 : s ≤ s') : Pok n' m' s' x := ⟨rp_mono _ _ _ e1 h.r, sm_mono _ _ _ (Nat.pow_le_pow_right (by decide) e2) h.b, Nat.le_trans h.z e3⟩
theorem Pok.ty {n m s : Nat} {x : D} (h : Pok n m s x) : (tyD x).isSome = true := rp_ty h.r
theorem pw4300 : (2 : Nat) ^ 14000 ≤ 10 ^ 4300 := by decide +kernel
theorem Pok.rok {n m s : Nat} {x : D} (h : Pok n m s x) (e1 : n ≤ 64) (e2 : m ≤ 14000) (e3 : s ≤ 16000000) (nd : isDct (toPy x) = false) : Rok x :=
  ⟨rp_mono _ _ _ e1 h.r, nd, sm_big _ (sm_mono _ _ _ (Nat.le_trans (Nat.pow_le_pow_right (by decide) e2) pw4300) h.b), Nat.le_trans h.z e3⟩
theorem pok_tup {n m : Nat} {xs : List D} (h1 : rps n xs = true) (h2 : sms (2 ^ m) xs = true) : Pok (n + 1) m (rszs xs + 3) (.tup xs) := ⟨by simpa only [rp] using h1, by simpa only [sm] using h2, by simp [rsz]⟩
theorem pok_lst {n m : Nat} {xs : List D} (h1 : rps n xs = true) (h2 : sms (2 ^ m) xs = true) : Pok (n + 1) m (rszs xs + 3) (.lst xs) := ⟨by simpa only [rp] using h1, by simpa only [sm] using h2, by simp [rsz]⟩
theorem Sz.sm {n : Nat} {i : Int} (h : Sz n i) : sm (2 ^ n) (.int i) = true := by
  simp only [ND.sm, decide_eq_true_eq]
  exact h
theorem pok_int {m : Nat} {i : Int} (h : Sz m i) : Pok 0 m 4301 (.int i) := ⟨by simp [rp], h.sm, by simp [rsz]⟩
theorem ints5 : intsFrom 0 5 = [.int 0, .int 1, .int 2, .int 3, .int 4] := rfl
def look3 (l : List (Str × Str × Bool)) (a b : Str) : Option Bool := (l.find? fun e => e.1 == a && e.2.1 == b).map fun e => e.2.2
theorem look3_mem {l : List (Str × Str × Bool)} {a b : Str} {r : Bool} (h : look3 l a b = some r) : (a, b, r) ∈ l := by
  unfold look3 at h
  obtain ⟨⟨x, y, z⟩, e, rfl⟩ := Option.map_eq_some_iff.mp h
  have h1 := List.find?_some e
  simp only [Bool.and_eq_true, beq_iff_eq] at h1
  obtain ⟨rfl, rfl⟩ := h1
  exact List.mem_of_find?_eq_some e
theorem tabIn_of {K : PySem.W.Frag} {x : Str} {f c P : Addr} {fd : FuncData} {oc tc : Value} {od td : Option Addr} {sl ts : Array (Option Value)} {tv : Array Value} (a : PySem.W.nsIn K mainGlobals x = some (some (.ref f))) (l : K.lookup f = some ⟨oc, od, .func fd, sl⟩)
    (hc : fd.code = .ref c) (t : K.lookup c = some ⟨tc, td, .fields tv, ts⟩) (e : tv[11]? = some (.ref P)) : PySem.W.tabIn K x = some (c, P) := by
  unfold PySem.W.tabIn
  simp only [a, l, hc, t, e]
end ND

/-! ND27: a shown text has good signs -/
namespace ND
open PySem PySem.Spec L2 PySem.Builtin.Str
def Good (x : Str) : Prop := ∀ c ∈ x.cps.toList, c < 0x110000
theorem good_iff {x : Str} : PyData.strOk x = true ↔ Good x := by
  unfold PyData.strOk Good
  rw [← Array.all_toList, List.all_eq_true]
  exact ⟨fun h c m => of_decide_eq_true (h c m), fun h c m => decide_eq_true (h c m)⟩
theorem Good.app {x y : Str} (h : Good x) (k : Good y) : Good (x ++ y) := fun c m => by
  have e : (x ++ y).cps.toList = x.cps.toList ++ y.cps.toList := by
    show (x.cps ++ y.cps).toList = _
    exact Array.toList_append
  rw [e] at m
  exact (List.mem_append.mp m).elim (h c) (k c)
theorem good_of (s : String) : Good (Str.ofString s) := fun c m => by
  rw [Str.ofString_eq_toList] at m
  obtain ⟨a, _, rfl⟩ := List.mem_map.mp (by simpa using m)
  have := a.valid
  simp only [UInt32.isValidChar, Nat.isValidChar] at this
  show a.val.toNat < 0x110000
  omega
theorem good_join {s : Str} (h : Good s) : ∀ ts : List Str, (∀ t ∈ ts, Good t) → Good (Str.join s ts)
  | [], _ => fun c m => by simp [Str.join, Str.empty] at m
  | [x], k => k x (List.mem_singleton_self _)
  | x :: y :: r, k => ((k x List.mem_cons_self).app h).app (good_join h (y :: r) fun t m => k t (List.mem_cons_of_mem _ m))
theorem good_from : ∀ (ts : List Str) (k : Nat) (acc : Str), Good acc → (∀ t ∈ ts, Good t) → Good (textFrom k acc ts)
  | [], _, _, h, _ => h
  | t :: r, k, acc, h, z => good_from r (k + 1) _ ((h.app (good_of _)).app (z t List.mem_cons_self)) fun u m => z u (List.mem_cons_of_mem _ m)
theorem digits_good (w c d : Nat) (m : d ∈ List.replicate (w - ((Nat.toDigits 16 c).map Char.toNat).length) 48 ++ (Nat.toDigits 16 c).map Char.toNat) : d < 0x110000 := by
  rcases List.mem_append.mp m with h | h
  · rw [List.eq_of_mem_replicate h]
    decide
  · obtain ⟨a, _, rfl⟩ := List.mem_map.mp h
    have := a.valid
    simp only [UInt32.isValidChar, Nat.isValidChar] at this
    show a.val.toNat < 0x110000
    omega
theorem reprChar_good {q c : Nat} (hq : q < 0x110000) (hc : c < 0x110000) : ∀ d ∈ Builtin.Str.reprChar q c, d < 0x110000 := by
  intro d m
  unfold Builtin.Str.reprChar at m
  dsimp only at m
  repeat' split at m
  all_goals first
    | (simp only [List.mem_cons, List.not_mem_nil, or_false] at m; omega)
    | (rcases List.mem_append.mp m with h | h
       · simp only [List.mem_cons, List.not_mem_nil, or_false] at h
         omega
       · exact digits_good _ _ _ h)
theorem foldl_good {q : Nat} (hq : q < 0x110000) : ∀ (l : List Nat) (acc : Array Nat), (∀ c ∈ l, c < 0x110000) → (∀ c ∈ acc.toList, c < 0x110000) → ∀ c ∈ (l.foldl (fun out c => out ++ (Builtin.Str.reprChar q c).toArray) acc).toList, c < 0x110000
  | [], acc, _, h => h
  | x :: r, acc, k, h => foldl_good hq r _ (fun c m => k c (List.mem_cons_of_mem _ m)) fun c m => by
    rw [Array.toList_append] at m
    rcases List.mem_append.mp m with z | z
    · exact h c z
    · exact reprChar_good hq (k x List.mem_cons_self) c (by simpa using z)
theorem reprText_good {x : Str} (h : Good x) : Good (reprText x) := fun c m => by
  have hq : reprQuote x < 0x110000 := by
    unfold reprQuote
    split <;> decide
  unfold reprText at m
  simp only [Array.toList_push, List.mem_append, List.mem_singleton, ← Array.foldl_toList] at m
  rcases m with m | m
  · refine foldl_good hq x.cps.toList _ h (fun d z => ?_) c m
    simp at z
    omega
  · omega
theorem good_tuple {ts : List Str} (h : ∀ t ∈ ts, Good t) : Good (tupleText ts) := by
  unfold tupleText
  exact ((good_of _).app (good_join (good_of _) ts h)).app (good_of _)
theorem good_list {ts : List Str} (h : ∀ t ∈ ts, Good t) : Good (listText ts) := (good_from ts 0 _ (good_of _) h).app (good_of _)
theorem good_dict {ts : List Str} (h : ∀ t ∈ ts, Good t) : Good (dictText ts) := by
  unfold dictText
  exact ((good_of _).app (good_join (good_of _) ts h)).app (good_of _)
mutual
theorem shown_good : ∀ (n : Nat) (d : D), rp n d = true → Good (toPy d).shown
  | _, .non, _ => good_of "None"
  | _, .bl b, _ => by
    cases b
    · exact good_of "False"
    · exact good_of "True"
  | _, .int i, _ => by
    simp only [toPy, PyData.shown]
    exact good_of _
  | n, .str x, h => by
    simp only [toPy, PyData.shown]
    exact reprText_good (good_iff.mp (by cases n <;> simpa only [rp] using h))
  | 0, .tup xs, h => by simp [rp] at h
  | 0, .lst xs, h => by simp [rp] at h
  | 0, .dic xs, h => by simp [rp] at h
  | n + 1, .tup xs, h => by
    simp only [toPy, PyData.shown]
    exact good_tuple (shownAll_good n xs (by simpa only [rp] using h))
  | n + 1, .lst xs, h => by
    simp only [toPy, PyData.shown]
    exact good_list (shownAll_good n xs (by simpa only [rp] using h))
  | n + 1, .dic xs, h => by
    simp only [toPy, PyData.shown]
    exact good_dict (shownKv_good n xs (by simpa only [rp] using h))
  | n, .obj _ _, h => by simp [rp] at h
  | n, .opq _, h => by simp [rp] at h
theorem shownAll_good : ∀ (n : Nat) (xs : List D), rps n xs = true → ∀ t ∈ PyData.shownAll (toPys xs), Good t
  | _, [], _ => fun t m => by simp [toPys, PyData.shownAll] at m
  | n, x :: xs, h => by
    simp only [rps, Bool.and_eq_true] at h
    intro t m
    simp only [toPys, PyData.shownAll, List.mem_cons] at m
    rcases m with rfl | m
    · exact shown_good n x h.1
    · exact shownAll_good n xs h.2 t m
theorem shownKv_good : ∀ (n : Nat) (xs : List (Key × D)), rpk n xs = true → ∀ t ∈ PyData.shownKv (toPyK xs), Good t
  | _, [], _ => fun t m => by simp [toPyK, PyData.shownKv] at m
  | n, (.inl k, x) :: xs, h => by
    simp only [rpk, Bool.and_eq_true] at h
    intro t m
    simp only [toPyK, PyData.shownKv, List.mem_cons] at m
    rcases m with rfl | m
    · exact (Good.app (by simp only [PyData.shown]; exact good_of _) (good_of _)).app (shown_good n x h.1)
    · exact shownKv_good n xs h.2 t m
  | n, (.inr k, x) :: xs, h => by
    simp only [rpk, Bool.and_eq_true] at h
    intro t m
    simp only [toPyK, PyData.shownKv, List.mem_cons] at m
    rcases m with rfl | m
    · exact (Good.app (by simp only [PyData.shown]; exact reprText_good (good_iff.mp h.1.1)) (good_of _)).app (shown_good n x h.1.2)
    · exact shownKv_good n xs h.2 t m
end
/-- the text of a repr can be shown too -/
theorem Pok.text {n m s : Nat} {x : D} (h : Pok n m s x) (e1 : n ≤ 64) (e2 : m ≤ 14000) (e3 : s ≤ 1500000) : Rok (.str (toPy x).shown) := by
  have hl : (toPy x).shown.length ≤ rsz x := shown_rsz _ _ h.r (sm_big _ (sm_mono _ _ _ (Nat.le_trans (Nat.pow_le_pow_right (by decide) e2) pw4300) h.b))
  refine ⟨?_, by simp [toPy, isDct], by simp [toPy, bigOk], ?_⟩
  · simp only [rp]
    exact good_iff.mpr (shown_good _ _ h.r)
  · simp only [rsz]
    have := h.z
    have e : (toPy x).shown.length = (toPy x).shown.cps.size := rfl
    omega
@[simp] theorem szl0 : (0 < sizeLine) = True := eq_true (by decide)
@[simp] theorem sze0 : (0 ≤ sizeLine) = True := eq_true (by decide)
@[simp] theorem szl1 : (1 < sizeLine) = True := eq_true (by decide)
@[simp] theorem sze1 : (1 ≤ sizeLine) = True := eq_true (by decide)
@[simp] theorem szl2 : (2 < sizeLine) = True := eq_true (by decide)
@[simp] theorem sze2 : (2 ≤ sizeLine) = True := eq_true (by decide)
@[simp] theorem szl3 : (3 < sizeLine) = True := eq_true (by decide)
@[simp] theorem sze3 : (3 ≤ sizeLine) = True := eq_true (by decide)
@[simp] theorem szl4 : (4 < sizeLine) = True := eq_true (by decide)
@[simp] theorem sze4 : (4 ≤ sizeLine) = True := eq_true (by decide)
@[simp] theorem szl5 : (5 < sizeLine) = True := eq_true (by decide)
@[simp] theorem sze5 : (5 ≤ sizeLine) = True := eq_true (by decide)
@[simp] theorem szl6 : (6 < sizeLine) = True := eq_true (by decide)
@[simp] theorem sze6 : (6 ≤ sizeLine) = True := eq_true (by decide)
@[simp] theorem szl7 : (7 < sizeLine) = True := eq_true (by decide)
@[simp] theorem sze7 : (7 ≤ sizeLine) = True := eq_true (by decide)
@[simp] theorem szl8 : (8 < sizeLine) = True := eq_true (by decide)
@[simp] theorem sze8 : (8 ≤ sizeLine) = True := eq_true (by decide)
@[simp] theorem szl9 : (9 < sizeLine) = True := eq_true (by decide)
@[simp] theorem sze9 : (9 ≤ sizeLine) = True := eq_true (by decide)
@[simp] theorem szl10 : (10 < sizeLine) = True := eq_true (by decide)
@[simp] theorem sze10 : (10 ≤ sizeLine) = True := eq_true (by decide)
@[simp] theorem szl11 : (11 < sizeLine) = True := eq_true (by decide)
@[simp] theorem sze11 : (11 ≤ sizeLine) = True := eq_true (by decide)
@[simp] theorem szl12 : (12 < sizeLine) = True := eq_true (by decide)
@[simp] theorem sze12 : (12 ≤ sizeLine) = True := eq_true (by decide)
@[simp] theorem szl13 : (13 < sizeLine) = True := eq_true (by decide)
@[simp] theorem sze13 : (13 ≤ sizeLine) = True := eq_true (by decide)
@[simp] theorem szl14 : (14 < sizeLine) = True := eq_true (by decide)
@[simp] theorem sze14 : (14 ≤ sizeLine) = True := eq_true (by decide)
@[simp] theorem szl15 : (15 < sizeLine) = True := eq_true (by decide)
@[simp] theorem sze15 : (15 ≤ sizeLine) = True := eq_true (by decide)
@[simp] theorem szl16 : (16 < sizeLine) = True := eq_true (by decide)
@[simp] theorem sze16 : (16 ≤ sizeLine) = True := eq_true (by decide)
@[simp] theorem szl17 : (17 < sizeLine) = True := eq_true (by decide)
@[simp] theorem sze17 : (17 ≤ sizeLine) = True := eq_true (by decide)
@[simp] theorem szl18 : (18 < sizeLine) = True := eq_true (by decide)
@[simp] theorem sze18 : (18 ≤ sizeLine) = True := eq_true (by decide)
@[simp] theorem szl19 : (19 < sizeLine) = True := eq_true (by decide)
@[simp] theorem sze19 : (19 ≤ sizeLine) = True := eq_true (by decide)
@[simp] theorem szl20 : (20 < sizeLine) = True := eq_true (by decide)
@[simp] theorem sze20 : (20 ≤ sizeLine) = True := eq_true (by decide)
@[simp] theorem szl21 : (21 < sizeLine) = True := eq_true (by decide)
@[simp] theorem sze21 : (21 ≤ sizeLine) = True := eq_true (by decide)
@[simp] theorem szl22 : (22 < sizeLine) = True := eq_true (by decide)
@[simp] theorem sze22 : (22 ≤ sizeLine) = True := eq_true (by decide)
@[simp] theorem szl23 : (23 < sizeLine) = True := eq_true (by decide)
@[simp] theorem sze23 : (23 ≤ sizeLine) = True := eq_true (by decide)
@[simp] theorem szl24 : (24 < sizeLine) = True := eq_true (by decide)
@[simp] theorem sze24 : (24 ≤ sizeLine) = True := eq_true (by decide)
@[simp] theorem szl25 : (25 < sizeLine) = True := eq_true (by decide)
@[simp] theorem sze25 : (25 ≤ sizeLine) = True := eq_true (by decide)
@[simp] theorem szl26 : (26 < sizeLine) = True := eq_true (by decide)
@[simp] theorem sze26 : (26 ≤ sizeLine) = True := eq_true (by decide)
@[simp] theorem szl27 : (27 < sizeLine) = True := eq_true (by decide)
@[simp] theorem sze27 : (27 ≤ sizeLine) = True := eq_true (by decide)
@[simp] theorem szl28 : (28 < sizeLine) = True := eq_true (by decide)
@[simp] theorem sze28 : (28 ≤ sizeLine) = True := eq_true (by decide)
@[simp] theorem szl29 : (29 < sizeLine) = True := eq_true (by decide)
@[simp] theorem sze29 : (29 ≤ sizeLine) = True := eq_true (by decide)
@[simp] theorem szl30 : (30 < sizeLine) = True := eq_true (by decide)
@[simp] theorem sze30 : (30 ≤ sizeLine) = True := eq_true (by decide)
@[simp] theorem szl31 : (31 < sizeLine) = True := eq_true (by decide)
@[simp] theorem sze31 : (31 ≤ sizeLine) = True := eq_true (by decide)
@[simp] theorem szl32 : (32 < sizeLine) = True := eq_true (by decide)
@[simp] theorem sze32 : (32 ≤ sizeLine) = True := eq_true (by decide)
@[simp] theorem szl33 : (33 < sizeLine) = True := eq_true (by decide)
@[simp] theorem sze33 : (33 ≤ sizeLine) = True := eq_true (by decide)
@[simp] theorem szl34 : (34 < sizeLine) = True := eq_true (by decide)
@[simp] theorem sze34 : (34 ≤ sizeLine) = True := eq_true (by decide)
@[simp] theorem szl35 : (35 < sizeLine) = True := eq_true (by decide)
@[simp] theorem sze35 : (35 ≤ sizeLine) = True := eq_true (by decide)
@[simp] theorem szl36 : (36 < sizeLine) = True := eq_true (by decide)
@[simp] theorem sze36 : (36 ≤ sizeLine) = True := eq_true (by decide)
@[simp] theorem szl37 : (37 < sizeLine) = True := eq_true (by decide)
@[simp] theorem sze37 : (37 ≤ sizeLine) = True := eq_true (by decide)
@[simp] theorem szl38 : (38 < sizeLine) = True := eq_true (by decide)
@[simp] theorem sze38 : (38 ≤ sizeLine) = True := eq_true (by decide)
@[simp] theorem szl39 : (39 < sizeLine) = True := eq_true (by decide)
@[simp] theorem sze39 : (39 ≤ sizeLine) = True := eq_true (by decide)
@[simp] theorem szl40 : (40 < sizeLine) = True := eq_true (by decide)
@[simp] theorem sze40 : (40 ≤ sizeLine) = True := eq_true (by decide)
@[simp] theorem szl41 : (41 < sizeLine) = True := eq_true (by decide)
@[simp] theorem sze41 : (41 ≤ sizeLine) = True := eq_true (by decide)
@[simp] theorem szl42 : (42 < sizeLine) = True := eq_true (by decide)
@[simp] theorem sze42 : (42 ≤ sizeLine) = True := eq_true (by decide)
@[simp] theorem szl43 : (43 < sizeLine) = True := eq_true (by decide)
@[simp] theorem sze43 : (43 ≤ sizeLine) = True := eq_true (by decide)
@[simp] theorem szl44 : (44 < sizeLine) = True := eq_true (by decide)
@[simp] theorem sze44 : (44 ≤ sizeLine) = True := eq_true (by decide)
@[simp] theorem szl45 : (45 < sizeLine) = True := eq_true (by decide)
@[simp] theorem sze45 : (45 ≤ sizeLine) = True := eq_true (by decide)
@[simp] theorem szl46 : (46 < sizeLine) = True := eq_true (by decide)
@[simp] theorem sze46 : (46 ≤ sizeLine) = True := eq_true (by decide)
@[simp] theorem szl47 : (47 < sizeLine) = True := eq_true (by decide)
@[simp] theorem sze47 : (47 ≤ sizeLine) = True := eq_true (by decide)
@[simp] theorem szl48 : (48 < sizeLine) = True := eq_true (by decide)
@[simp] theorem sze48 : (48 ≤ sizeLine) = True := eq_true (by decide)
@[simp] theorem szl49 : (49 < sizeLine) = True := eq_true (by decide)
@[simp] theorem sze49 : (49 ≤ sizeLine) = True := eq_true (by decide)
@[simp] theorem szl50 : (50 < sizeLine) = True := eq_true (by decide)
@[simp] theorem sze50 : (50 ≤ sizeLine) = True := eq_true (by decide)
@[simp] theorem szl51 : (51 < sizeLine) = True := eq_true (by decide)
@[simp] theorem sze51 : (51 ≤ sizeLine) = True := eq_true (by decide)
@[simp] theorem szl52 : (52 < sizeLine) = True := eq_true (by decide)
@[simp] theorem sze52 : (52 ≤ sizeLine) = True := eq_true (by decide)
@[simp] theorem szl53 : (53 < sizeLine) = True := eq_true (by decide)
@[simp] theorem sze53 : (53 ≤ sizeLine) = True := eq_true (by decide)
@[simp] theorem szl54 : (54 < sizeLine) = True := eq_true (by decide)
@[simp] theorem sze54 : (54 ≤ sizeLine) = True := eq_true (by decide)
@[simp] theorem szl55 : (55 < sizeLine) = True := eq_true (by decide)
@[simp] theorem sze55 : (55 ≤ sizeLine) = True := eq_true (by decide)
@[simp] theorem szl56 : (56 < sizeLine) = True := eq_true (by decide)
@[simp] theorem sze56 : (56 ≤ sizeLine) = True := eq_true (by decide)
@[simp] theorem szl57 : (57 < sizeLine) = True := eq_true (by decide)
@[simp] theorem sze57 : (57 ≤ sizeLine) = True := eq_true (by decide)
@[simp] theorem szl58 : (58 < sizeLine) = True := eq_true (by decide)
@[simp] theorem sze58 : (58 ≤ sizeLine) = True := eq_true (by decide)
@[simp] theorem szl59 : (59 < sizeLine) = True := eq_true (by decide)
@[simp] theorem sze59 : (59 ≤ sizeLine) = True := eq_true (by decide)
@[simp] theorem szl60 : (60 < sizeLine) = True := eq_true (by decide)
@[simp] theorem sze60 : (60 ≤ sizeLine) = True := eq_true (by decide)
@[simp] theorem szl61 : (61 < sizeLine) = True := eq_true (by decide)
@[simp] theorem sze61 : (61 ≤ sizeLine) = True := eq_true (by decide)
@[simp] theorem szl62 : (62 < sizeLine) = True := eq_true (by decide)
@[simp] theorem sze62 : (62 ≤ sizeLine) = True := eq_true (by decide)
@[simp] theorem szl63 : (63 < sizeLine) = True := eq_true (by decide)
@[simp] theorem sze63 : (63 ≤ sizeLine) = True := eq_true (by decide)
@[simp] theorem szl64 : (64 < sizeLine) = True := eq_true (by decide)
@[simp] theorem sze64 : (64 ≤ sizeLine) = True := eq_true (by decide)
@[simp] theorem szl65 : (65 < sizeLine) = True := eq_true (by decide)
@[simp] theorem sze65 : (65 ≤ sizeLine) = True := eq_true (by decide)
@[simp] theorem szl66 : (66 < sizeLine) = True := eq_true (by decide)
@[simp] theorem sze66 : (66 ≤ sizeLine) = True := eq_true (by decide)
@[simp] theorem szl67 : (67 < sizeLine) = True := eq_true (by decide)
@[simp] theorem sze67 : (67 ≤ sizeLine) = True := eq_true (by decide)
@[simp] theorem szl68 : (68 < sizeLine) = True := eq_true (by decide)
@[simp] theorem sze68 : (68 ≤ sizeLine) = True := eq_true (by decide)
@[simp] theorem szl69 : (69 < sizeLine) = True := eq_true (by decide)
@[simp] theorem sze69 : (69 ≤ sizeLine) = True := eq_true (by decide)
theorem ixn_in {n : Nat} {i : Int} (h0 : 0 ≤ i) (h1 : i < n) : ixN n i = some i.toNat := by simp [ixN, h0, h1]
@[simp] theorem ix_t0 (a : D) (r : List D) (Q : D → Prop) : ixD (.tup (a :: r)) (.int 0) Q = Q a := by simp [ixD, atI, ixN]
@[simp] theorem ix_t1 (a b : D) (r : List D) (Q : D → Prop) : ixD (.tup (a :: b :: r)) (.int 1) Q = Q b := by
  have h : (1 : Int) < (r.length : Int) + 1 + 1 := by omega
  simp [ixD, atI, ixN, h]
@[simp] theorem ix_t2 (a b c : D) (r : List D) (Q : D → Prop) : ixD (.tup (a :: b :: c :: r)) (.int 2) Q = Q c := by
  have h : (2 : Int) < (r.length : Int) + 1 + 1 + 1 := by omega
  simp [ixD, atI, ixN, h]
@[simp] theorem ix_l0 (a : D) (r : List D) (Q : D → Prop) : ixD (.lst (a :: r)) (.int 0) Q = Q a := by simp [ixD, atI, ixN]
@[simp] theorem ix_l1 (a b : D) (r : List D) (Q : D → Prop) : ixD (.lst (a :: b :: r)) (.int 1) Q = Q b := by
  have h : (1 : Int) < (r.length : Int) + 1 + 1 := by omega
  simp [ixD, atI, ixN, h]
@[simp] theorem ix_l2 (a b c : D) (r : List D) (Q : D → Prop) : ixD (.lst (a :: b :: c :: r)) (.int 2) Q = Q c := by
  have h : (2 : Int) < (r.length : Int) + 1 + 1 + 1 := by omega
  simp [ixD, atI, ixN, h]
end ND

/-! ND28: what an expression is, where it can be only one thing -/
namespace ND
open PySem PySem.Spec L2
structure Ev (σ : List SV) (f : GE) (x : D) : Prop where
  run : ∀ Q : D → Prop, Q x → f σ Q
structure EvA (σ : List SV) (f : GA) (x : List D) : Prop where
  run : ∀ Q : List D → Prop, Q x → f σ Q
section
variable {σ : List SV} {f g : GE} {fs : GA} {x y : D} {xs ys : List D} {i j : Int}
theorem Ev.c : Ev σ (gC x) x := ⟨fun _ q => q⟩
theorem Ev.var {n : Nat} (h : σ[n]? = some (.d x)) : Ev σ (gVar n) x := ⟨fun Q q => by
  unfold gVar
  rw [h]
  exact q⟩
theorem EvA.nil : EvA σ ND.gNil [] := ⟨fun _ q => q⟩
theorem EvA.cons (h : Ev σ f x) (k : EvA σ fs xs) : EvA σ (ND.gCons f fs) (x :: xs) := ⟨fun Q q => h.run _ (k.run _ q)⟩
theorem Ev.tup (h : EvA σ fs xs) (hl : xs.length ≤ sizeLine) : Ev σ (ND.gTup fs) (.tup xs) := ⟨fun Q q => h.run _ ⟨hl, q⟩⟩
theorem Ev.lst (h : EvA σ fs xs) (hl : xs.length ≤ sizeLine) : Ev σ (gFrz (gLst fs)) (.lst xs) := ⟨fun Q q => h.run _ ⟨hl, q⟩⟩
theorem Ev.neg (h : Ev σ f (.int i)) : Ev σ (gUn negD f) (.int (-i)) := ⟨fun Q q => h.run _ q⟩
theorem Ev.rev (h : Ev σ f (.tup xs)) : Ev σ (gUn revD f) (.tup xs.reverse) := ⟨fun Q q => h.run _ q⟩
theorem Ev.dic {k : Key} (h : Ev σ f x) : Ev σ (gDic1 k f) (.dic [(k, x)]) := ⟨fun Q q => h.run _ q⟩
theorem Ev.addL (h : Ev σ f (.lst xs)) (k : Ev σ g (.lst ys)) (hl : xs.length + ys.length ≤ sizeLine) : Ev σ (gBin addD f g) (.lst (xs ++ ys)) := ⟨fun Q q => h.run _ (k.run _ ⟨hl, q⟩)⟩
theorem Ev.addT (h : Ev σ f (.tup xs)) (k : Ev σ g (.tup ys)) (hl : xs.length + ys.length ≤ sizeLine) : Ev σ (gBin addD f g) (.tup (xs ++ ys)) := ⟨fun Q q => h.run _ (k.run _ ⟨hl, q⟩)⟩
theorem Ev.addI (h : Ev σ f (.int i)) (k : Ev σ g (.int j)) : Ev σ (gBin addD f g) (.int (i + j)) := ⟨fun Q q => h.run _ (k.run _ q)⟩
theorem Ev.subI (h : Ev σ f (.int i)) (k : Ev σ g (.int j)) : Ev σ (gBin subD f g) (.int (i - j)) := ⟨fun Q q => h.run _ (k.run _ q)⟩
theorem Ev.eqI (h : Ev σ f (.int i)) (k : Ev σ g (.int j)) : Ev σ (gBin eqD f g) (.bl (decide (i = j))) := ⟨fun Q q => h.run _ (k.run _ (by rw [eqD_i]; exact q))⟩
theorem Ev.mul3 (h : Ev σ f (.lst xs)) (hl : xs.length * 3 ≤ sizeLine) : Ev σ (gBin mulD f (gC (.int 3))) (.lst (xs ++ (xs ++ (xs ++ [])))) := ⟨fun Q q => h.run _ ⟨by decide, by decide, hl, q⟩⟩
theorem Ev.listT (h : Ev σ f (.tup xs)) : Ev σ (gFrz (gBltF listD (ND.gCons f ND.gNil))) (.lst xs) := ⟨fun Q q => h.run _ q⟩
theorem Ev.slLo (h : Ev σ f (.tup xs)) (k : Ev σ g (.int i)) : Ev σ (gSl slD f (gPart g) gNoPart) (.tup (cutG xs (some i) none)) := ⟨fun Q q => h.run _ (k.run _ ⟨i, rfl, q⟩)⟩
theorem Ev.slHi (h : Ev σ f (.tup xs)) (k : Ev σ g (.int i)) : Ev σ (gSl slD f gNoPart (gPart g)) (.tup (cutG xs none (some i))) := ⟨fun Q q => h.run _ (k.run _ ⟨i, rfl, q⟩)⟩
theorem Ev.strI (h : Ev σ f (.int i)) (hi : i.natAbs < 10 ^ 4300) : Ev σ (gBlt ND.strI (ND.gCons f ND.gNil)) (.str (toString i)) := ⟨fun Q q => h.run _ ⟨i, rfl, hi, q⟩⟩
theorem Ev.nines {k : Int} {n : Int} (h0 : 1 ≤ k) (e : intText? (Txt.mul (Str.ofString "9") k) = some n) (hl : (Txt.mul (Str.ofString "9") k).length ≤ sizeLine) (hk : (Str.ofString "9").length * k.toNat ≤ sizeLine) : Ev σ (gBlt intB (ND.gCons (gBin repS (gC (.str "9")) (gC (.int k))) ND.gNil)) (.int n) :=
  ⟨fun Q q => ⟨h0, hk, by decide, n, e, hl, q⟩⟩
theorem Ev.isi {T : String} {b : Bool} (h : Ev σ f x) (hk : knownT T = true) (hs : (tyD x).isSome = true) (hb : isiB T x = b) : Ev σ (gBlt isiD (ND.gCons f (ND.gCons (gC (.opq (.ty T))) ND.gNil))) (.bl b) := ⟨fun Q q => h.run _ ⟨hk, hs, by rw [hb]; exact q⟩⟩
variable {s s' : GS} {E : Ed}
theorem ifS_t (h : Ev σ f (.bl true)) (q : s E σ) : gIfS (gTru f) s s' E σ := h.run _ (by simpa using q)
theorem ifS_f (h : Ev σ f (.bl false)) (q : s' E σ) : gIfS (gTru f) s s' E σ := h.run _ (by simpa using q)
theorem seq_set {k : Nat} (h : Ev σ f x) (q : s E (σ.set k (.d x))) : gSeq (gSet k f) s E σ := h.run _ q
theorem seq_t {t : GS} (h : Ev σ f (.bl true)) (q : gSeq s t E σ) : gSeq (gIfS (gTru f) s s') t E σ := h.run _ (by simpa using q)
theorem seq_f {t : GS} (h : Ev σ f (.bl false)) (q : gSeq s' t E σ) : gSeq (gIfS (gTru f) s s') t E σ := h.run _ (by simpa using q)
theorem cut_mem {xs : List D} {a b : Option Int} {y : D} (m : y ∈ cutG xs a b) : y ∈ xs := List.mem_of_mem_drop (List.mem_of_mem_take m)
theorem cut_len (xs : List D) (a b : Option Int) : (cutG xs a b).length ≤ xs.length := by
  unfold cutG
  simp only [List.length_take, List.length_drop]
  omega
theorem pok_text {m : Nat} {i : Int} (h : i.natAbs < 10 ^ 4300) : Pok 0 m 50000 (.str (toString i)) := by
  refine ⟨?_, by simp [sm], ?_⟩
  · simp only [rp]
    exact good_iff.mpr (good_of _)
  · have e := int_text_length_le10 (k := 4300) (by decide) h
    have e2 : (Str.ofString (toString i)).length = (toString i).length := ofString_length _
    have e3 : (Str.ofString (toString i)).length = (Str.ofString (toString i)).cps.size := rfl
    simp only [rsz]
    omega
end
end ND

/-! ND29: zip of two tuples or two lists -/
namespace ND
open PySem PySem.Spec L2
section
variable {B : Bs} {X : Cx} {e e2 : Expr} {pos : Pos}
def zipL (xs ys : List D) : List D := List.zipWith (fun x y => .tup [x, y]) xs ys
theorem zipL_at {xs ys : List D} {i : Nat} {d : D} (h : (zipL xs ys)[i]? = some d) : ∃ x y, xs[i]? = some x ∧ ys[i]? = some y ∧ d = .tup [x, y] := by
  unfold zipL at h
  rw [List.getElem?_zipWith] at h
  cases hx : xs[i]? with
  | none => simp [hx] at h
  | some x =>
    cases hy : ys[i]? with
    | none => simp [hx, hy] at h
    | some y =>
      simp [hx, hy] at h
      exact ⟨x, y, rfl, rfl, h.symm⟩
theorem itOk_zipT {K : Kn} {a b : Addr} {vs us : List V} {xs ys : List D} {F : Hp} (h : SqT K.K F a vs) (r : Reps K F vs xs) (h2 : SqT K.K F b us) (r2 : Reps K F us ys) : ItOk B K (RZ.ItzT K.K a b) (zipL xs ys) F := by
  refine ⟨fun F' H' i d e1 e2 dk hd => ?_, fun F' H' i e1 e2 hi => ⟨vs, us, same_t e2 (same_t e1 h), same_t e2 (same_t e1 h2), by
    rw [r.length, r2.length]
    simp only [zipL, List.length_zipWith] at hi
    omega⟩⟩
  obtain ⟨x, y, hx, hy, rfl⟩ := zipL_at hd
  have ha : SqT K.K H' a vs := same_t e2 (same_t e1 h)
  have hb : SqT K.K H' b us := same_t e2 (same_t e1 h2)
  obtain ⟨v, hv, rv⟩ := r.get hx
  obtain ⟨u, hu, ru⟩ := r2.get hy
  refine ⟨⟨vs, us, v, u, ha, hb, hv, hu⟩, fun z H'' ⟨T, v', u', e, hT, eH, fv, fu⟩ => ?_⟩
  subst e eH
  have z1 := fv vs ha
  rw [hv] at z1
  cases z1
  have z2 := fu us hb
  rw [hu] at z2
  cases z2
  have fT := e2.free hT
  exact ⟨_, Grow.frz e2 hT, dk.frz hT, .tup (SqT.of upd_same) (.cons ((rv.mono e1).mono (same_new fT)) (.cons ((ru.mono e1).mono (same_new fT)) .nil))⟩
theorem itOk_zipL {K : Kn} {a b : Addr} {vs us : List V} {xs ys : List D} {F : Hp} (h : F a = some (.lst vs)) (r : Reps K F vs xs) (h2 : F b = some (.lst us)) (r2 : Reps K F us ys) : ItOk B K (Itz K.K a b) (zipL xs ys) F := by
  refine ⟨fun F' H' i d e1 e2 dk hd => ?_, fun F' H' i e1 e2 hi => ⟨vs, us, SqL.of (e2 _ _ (e1 _ _ h)), SqL.of (e2 _ _ (e1 _ _ h2)), by
    rw [r.length, r2.length]
    simp only [zipL, List.length_zipWith] at hi
    omega⟩⟩
  obtain ⟨x, y, hx, hy, rfl⟩ := zipL_at hd
  have ha : SqL K.K H' a vs := SqL.of (e2 _ _ (e1 _ _ h))
  have hb : SqL K.K H' b us := SqL.of (e2 _ _ (e1 _ _ h2))
  obtain ⟨v, hv, rv⟩ := r.get hx
  obtain ⟨u, hu, ru⟩ := r2.get hy
  refine ⟨⟨vs, us, v, u, ha, hb, hv, hu⟩, fun z H'' ⟨T, v', u', e, hT, eH, fv, fu⟩ => ?_⟩
  subst e eH
  have z1 := fv vs ha
  rw [hv] at z1
  cases z1
  have z2 := fu us hb
  rw [hu] at z2
  cases z2
  have fT := e2.free hT
  exact ⟨_, Grow.frz e2 hT, dk.frz hT, .tup (SqT.of upd_same) (.cons ((rv.mono e1).mono (same_new fT)) (.cons ((ru.mono e1).mono (same_new fT)) .nil))⟩
def zipD (ds : List D) (Q : List D → Prop) : Prop := (∃ xs ys, ds = [.tup xs, .tup ys] ∧ Q (zipL xs ys)) ∨ ∃ xs ys, ds = [.lst xs, .lst ys] ∧ Q (zipL xs ys)
@[simp] theorem zipD_t (xs ys : List D) (Q : List D → Prop) : zipD [.tup xs, .tup ys] Q ↔ Q (zipL xs ys) := ⟨fun h => by
  rcases h with ⟨_, _, e, q⟩ | ⟨_, _, e, q⟩ <;> cases e <;> exact q, fun q => .inl ⟨_, _, rfl, q⟩⟩
@[simp] theorem zipD_l (xs ys : List D) (Q : List D → Prop) : zipD [.lst xs, .lst ys] Q ↔ Q (zipL xs ys) := ⟨fun h => by
  rcases h with ⟨_, _, e, q⟩ | ⟨_, _, e, q⟩ <;> cases e <;> exact q, fun q => .inr ⟨_, _, rfl, q⟩⟩
@[simp] def gZip (fs : GA) (σ : List SV) (Q : List D → Prop) : Prop := fs σ fun ds => zipD ds Q
theorem pid_zip {p tpos : Pos} {elts : List Expr} {kk : Nat} {fs : GA} (hg : Gl X "zip") (hm : X.mg "zip" = none) (ha : AD B X [e, e2] fs)
    (hs : starEach [e, e2] X.env = (false, eval e X.env) :: starEach [e2] X.env := by rfl) (hpl : (backTo pos (starEach [e2] X.env)).any (·.1) = false := by rfl) :
    PID B X (.Tuple elts kk tpos) (.Call (.Name "zip" p) [e, e2] [] pos) (gZip fs) :=
  ⟨pi_imp (RZ.pi_zipA hg hm ha.run hs hpl) fun s H R ⟨σ, F, Qd, Rl, q, k⟩ => ⟨σ, F, _, Rl, q, fun ds qd F1 H1 vs g1 d1 r1 => by
    rcases qd with ⟨xs, ys, rfl, qd⟩ | ⟨xs, ys, rfl, qd⟩
    · cases r1 with
      | cons ra rr =>
        cases rr with
        | cons rb rr =>
          cases rr
          cases ra with
          | tup h r =>
            cases rb with
            | tup h2 r2 => exact ⟨_, _, _, _, rfl, .inr ⟨same_t g1.fh h, same_t g1.fh h2, k _ qd F1 H1 _ g1 d1 (itOk_zipT h r h2 r2)⟩⟩
    · cases r1 with
      | cons ra rr =>
        cases rr with
        | cons rb rr =>
          cases rr
          cases ra with
          | lst h r =>
            cases rb with
            | lst h2 r2 => exact ⟨_, _, _, _, rfl, .inl ⟨SqL.of (g1.fh _ _ h), SqL.of (g1.fh _ _ h2), k _ qd F1 H1 _ g1 d1 (itOk_zipL h r h2 r2)⟩⟩⟩⟩
end
end ND

/-! ND30: rows of five, corners, outcomes, evaluation (first written for k13) -/
namespace ND
open PySem PySem.Spec L2
def isI : D → Bool | .int _ => true | _ => false
def nOf : D → Int | .int i => i | _ => 0
def isFive : D → Bool
  | .tup xs => decide (xs.length = 5) && xs.all isI
  | _ => false
def sumN : D → Int
  | .tup xs => (xs.map nOf).sum
  | _ => 0
def isCor (x : D) : Bool := isFive x && decide (1 ≤ sumN x ∧ sumN x ≤ 4)
def isDir : D → Bool
  | .int i => decide (0 ≤ i ∧ i ≤ 4)
  | _ => false
def tup5 (f : Int → Int) : D := .tup [.int (f 0), .int (f 1), .int (f 2), .int (f 3), .int (f 4)]
def sum5 (f : Int → Int) : Int := f 0 + f 1 + f 2 + f 3 + f 4
def at5 (a b c d e i : Int) : Int := if i = 0 then a else if i = 1 then b else if i = 2 then c else if i = 3 then d else e
def rz (f : Int → Int) (j u : Int) : Int → Int := fun i => f i + if i = j then u else 0
inductive Oc where
  | ok (d : D)
  | bad (c : Str) (x : D)
def outc : Oc → (D → Prop) → (Er → Prop) → Prop
  | .ok d, Q, _ => Q d
  | .bad c x, _, R => R ⟨c, [("thing", x)]⟩
theorem five_of {j : Int} (h0 : 0 ≤ j) (h1 : j ≤ 4) : j = 0 ∨ j = 1 ∨ j = 2 ∨ j = 3 ∨ j = 4 := by omega
theorem all_lc {W : WD} {σ : List SV} {i : Nat} {Q : List D → Prop} {c : D → Bool} (sp : DSp) (hs : ∀ x Qd, (tyD x).isSome = true → Qd (.bl (c x)) → sp W [x] Qd fun _ => False) (hi : i < σ.length) : ∀ (xs acc : List D), (∀ x ∈ xs, (tyD x).isSome = true) → acc.length + xs.length ≤ sizeLine → Q (acc ++ xs.map fun x => .bl (c x)) →
    lcG (ggName i) gYes (gCall sp W (fun _ => False) (ND.gCons (gVar i) ND.gNil)) [i] σ Q xs acc
  | [], acc, _, _, q => by simpa [lcG] using q
  | x :: xs, acc, h, hl, q => by
    simp only [List.length_cons] at hl
    have e : (σ.set i (.d x))[i]? = some (.d x) := by simp [hi]
    simp only [lcG, ggName, wipeD, gYes, gCall, ND.gCons, ND.gNil, gVar, List.set_set, e, if_true]
    exact hs x _ (h x List.mem_cons_self) ⟨by omega, all_lc sp hs hi xs _ (fun y m => h y (List.mem_cons_of_mem _ m)) (by simp; omega) (by simpa using q)⟩
theorem not_lc {W : WD} {σ : List SV} {i : Nat} {Q : List D → Prop} {c : D → Bool} (sp : DSp) (hs : ∀ x Qd, (tyD x).isSome = true → Qd (.bl (c x)) → sp W [x] Qd fun _ => False) (hi : i < σ.length) : ∀ (xs acc : List D), (∀ x ∈ xs, (tyD x).isSome = true) → acc.length + xs.length ≤ sizeLine → Q (acc ++ (xs.filter fun x => !c x).map fun _ => .int 1) →
    lcG (ggName i) (gNotT (gTru (gCall sp W (fun _ => False) (ND.gCons (gVar i) ND.gNil)))) (gC (.int 1)) [i] σ Q xs acc
  | [], acc, _, _, q => by simpa [lcG] using q
  | x :: xs, acc, h, hl, q => by
    simp only [List.length_cons] at hl
    have e : (σ.set i (.d x))[i]? = some (.d x) := by simp [hi]
    simp only [lcG, ggName, wipeD, gNotT, gTru, gC, gCall, ND.gCons, ND.gNil, gVar, List.set_set, e]
    refine hs x _ (h x List.mem_cons_self) ?_
    simp only [truthD]
    cases hc : c x
    · simp only [Bool.not_false, if_true]
      exact ⟨by omega, not_lc sp hs hi xs _ (fun y m => h y (List.mem_cons_of_mem _ m)) (by simp; omega) (by simpa [hc] using q)⟩
    · simp only [Bool.not_true, Bool.false_eq_true, if_false]
      exact not_lc sp hs hi xs _ (fun y m => h y (List.mem_cons_of_mem _ m)) (by omega) (by simpa [hc] using q)
theorem bls_map (f : D → Bool) : ∀ xs : List D, blsOf (xs.map fun x => .bl (f x)) = some (xs.map f)
  | [] => rfl
  | x :: xs => by simp [blsOf, bls_map f xs]
theorem rps_ty {n : Nat} {xs : List D} (h : rps n xs = true) : ∀ x ∈ xs, (tyD x).isSome = true := fun x m => by
  rw [rps_all, List.all_eq_true] at h
  exact rp_ty (h x m)
theorem rp_tup {xs : List D} (h : rp 64 (.tup xs) = true) : ∀ x ∈ xs, (tyD x).isSome = true := rps_ty (n := 63) (by simpa only [rp] using h)
theorem isI_n {x : D} (h : isI x = true) : ∃ i, x = .int i := by
  cases x with
  | int i => exact ⟨i, rfl⟩
  | _ => simp [isI] at h
theorem len3 {xs : List D} (h : xs.length = 3) : ∃ a b c, xs = [a, b, c] := by
  match xs, h with
  | [a, b, c], _ => exact ⟨a, b, c, rfl⟩
theorem pls_ones (xs : List D) (n : Nat) : pls n (xs.map fun _ => .int 1) = true := by
  induction xs with
  | nil => simp [pls]
  | cons x xs ih => simp [pls, pl, ih]
theorem ne_nil {xs : List D} : PyData.eqv (.list (toPys xs)) (.list (toPys [])) = xs.isEmpty := by
  cases xs <;> simp [toPys, PyData.eqv, PyData.eqvAll]
theorem ne_ones {xs : List D} {P N : Prop} (q : if xs.all isI = true then P else N) : pl 64 (.lst ([] ++ (xs.filter fun x => !isI x).map fun _ => .int 1)) = true ∧ pl 64 (.lst []) = true ∧ (if eqb (.lst ([] ++ (xs.filter fun x => !isI x).map fun _ => .int 1)) (.lst []) = true then P else N) := by
  have e : ((xs.filter fun x => !isI x).map fun _ => D.int 1).isEmpty = xs.all isI := by
    induction xs with
    | nil => rfl
    | cons x xs ih => cases h : isI x <;> simp_all
  simp only [List.nil_append, pl, pls_ones, eqb, toPy, ne_nil, e]
  exact ⟨trivial, by simp [pls], q⟩
theorem ints_of : ∀ {xs : List D}, xs.all isI = true → intsOf xs = some (xs.map nOf)
  | [], _ => rfl
  | x :: xs, h => by
    simp only [List.all_cons, Bool.and_eq_true] at h
    obtain ⟨i, rfl⟩ := isI_n h.1
    simp [intsOf, ints_of h.2, nOf]
theorem five_xs {x : D} (h : isFive x = true) : ∃ xs, x = .tup xs ∧ xs.length = 5 ∧ xs.all isI = true := by
  cases x with
  | tup xs =>
    simp only [isFive, Bool.and_eq_true, decide_eq_true_eq] at h
    exact ⟨xs, rfl, h⟩
  | _ => simp [isFive] at h
theorem five_ok {xs : List D} (hl : xs.length = 5) (ha : xs.all isI = true) : isFive (.tup xs) = true := by simp [isFive, hl, ha]
theorem cor_eq {xs : List D} (hl : xs.length = 5) (ha : xs.all isI = true) : isCor (.tup xs) = decide (1 ≤ (xs.map nOf).sum ∧ (xs.map nOf).sum ≤ 4) := by
  unfold isCor
  rw [five_ok hl ha, Bool.true_and]
  rfl
theorem cor_no {x : D} (h : isFive x = false) : isCor x = false := by
  unfold isCor
  rw [h, Bool.false_and]
theorem tup5_mk (a b c d e : Int) : D.tup [.int a, .int b, .int c, .int d, .int e] = tup5 (at5 a b c d e) := by simp [tup5, at5]
theorem rp_tup5 (f : Int → Int) : rp 64 (tup5 f) = true := by simp [tup5, rp, rps]
theorem cor5 (f : Int → Int) : isCor (tup5 f) = decide (1 ≤ sum5 f ∧ sum5 f ≤ 4) := by
  have e : (([D.int (f 0), .int (f 1), .int (f 2), .int (f 3), .int (f 4)]).map nOf).sum = sum5 f := by
    simp [nOf, sum5]
    omega
  have := cor_eq (xs := [D.int (f 0), .int (f 1), .int (f 2), .int (f 3), .int (f 4)]) rfl rfl
  rw [e] at this
  exact this
theorem cor_yes {f : Int → Int} (h1 : 1 ≤ sum5 f) (h2 : sum5 f ≤ 4) : isCor (tup5 f) = true := by
  rw [cor5]
  exact decide_eq_true ⟨h1, h2⟩
theorem cor_n {x : D} (h : isCor x = true) : ∃ a b c d e, x = tup5 (at5 a b c d e) ∧ 1 ≤ sum5 (at5 a b c d e) ∧ sum5 (at5 a b c d e) ≤ 4 := by
  cases hf : isFive x
  · rw [cor_no hf] at h
    cases h
  · obtain ⟨xs, rfl, hl, ha⟩ := five_xs hf
    match xs, hl with
    | [a, b, c, d, e], _ =>
      simp at ha
      obtain ⟨h1, h2, h3, h4, h5⟩ := ha
      obtain ⟨a, rfl⟩ := isI_n h1
      obtain ⟨b, rfl⟩ := isI_n h2
      obtain ⟨c, rfl⟩ := isI_n h3
      obtain ⟨d, rfl⟩ := isI_n h4
      obtain ⟨e, rfl⟩ := isI_n h5
      rw [tup5_mk, cor5] at h
      exact ⟨a, b, c, d, e, tup5_mk _ _ _ _ _, of_decide_eq_true h⟩
theorem sum5_D {f : Int → Int} {Q : D → Prop} (q : Q (.int (sum5 f))) : sumD [tup5 f] Q := by
  refine ⟨_, ints_of rfl, ?_⟩
  have e : (([D.int (f 0), .int (f 1), .int (f 2), .int (f 3), .int (f 4)]).map nOf).sum = sum5 f := by
    simp [nOf, sum5]
    omega
  rw [e]
  exact q
theorem rz_sum {f : Int → Int} {j u : Int} (h0 : 0 ≤ j) (h1 : j ≤ 4) : sum5 (rz f j u) = sum5 f + u := by
  rcases five_of h0 h1 with h | h | h | h | h <;> subst h <;> simp [sum5, rz] <;> omega
theorem lc5 {σ : List SV} {i : Nat} {fe : GE} {Q : List D → Prop} {g : Int → D} (h : ∀ j, 0 ≤ j → j ≤ 4 → ∀ Qd : D → Prop, Qd (g j) → fe (σ.set i (.d (.int j))) Qd) (q : Q [g 0, g 1, g 2, g 3, g 4]) : lcG (ggName i) gYes fe [i] σ Q (ND.intsFrom 0 5) [] := by
  simp only [ints5, lcG, ggName, wipeD, gYes, List.set_set, if_true]
  refine h 0 (by decide) (by decide) _ ⟨by simp, h 1 (by decide) (by decide) _ ⟨by simp, h 2 (by decide) (by decide) _ ⟨by simp, h 3 (by decide) (by decide) _ ⟨by simp, h 4 (by decide) (by decide) _ ⟨by simp, q⟩⟩⟩⟩⟩
theorem tup5_ext {f g : Int → Int} (h : ∀ i, 0 ≤ i → i ≤ 4 → f i = g i) : tup5 f = tup5 g := by
  unfold tup5
  rw [h 0 (by decide) (by decide), h 1 (by decide) (by decide), h 2 (by decide) (by decide), h 3 (by decide) (by decide), h 4 (by decide) (by decide)]
theorem at5_at {f : Int → Int} {i : Int} (h0 : 0 ≤ i) (h1 : i ≤ 4) : at5 (f 0) (f 1) (f 2) (f 3) (f 4) i = f i := by
  rcases five_of h0 h1 with h | h | h | h | h <;> subst h <;> simp [at5]
theorem list5 {xs : List D} {g : Int → D} (hl : xs.length = 5) (h : ∀ i : Int, 0 ≤ i → i ≤ 4 → xs[i.toNat]? = some (g i)) : xs = [g 0, g 1, g 2, g 3, g 4] := by
  match xs, hl with
  | [a, b, c, d, e], _ =>
    have h0 := h 0 (by decide) (by decide)
    have h1 := h 1 (by decide) (by decide)
    have h2 := h 2 (by decide) (by decide)
    have h3 := h 3 (by decide) (by decide)
    have h4 := h 4 (by decide) (by decide)
    simp at h0 h1 h2 h3 h4
    rw [h0, h1, h2, h3, h4]
theorem tup5_at {f : Int → Int} {Q : D → Prop} {j : Int} (h0 : 0 ≤ j) (h1 : j ≤ 4) : ixD (tup5 f) (.int j) Q = Q (.int (f j)) := by
  rcases five_of h0 h1 with h | h | h | h | h <;> subst h <;> simp [tup5, ixD, atI, ixN]
theorem filt_lc {σ : List SV} {i : Nat} {ft : GT} {Q : List D → Prop} {c : D → Bool} (hi : i < σ.length) : ∀ (xs acc : List D), (∀ x ∈ xs, ∀ Qd : Bool → Prop, Qd (c x) → ft (σ.set i (.d x)) Qd) → acc.length + xs.length ≤ sizeLine → Q (acc ++ xs.filter c) → lcG (ggName i) ft (gVar i) [i] σ Q xs acc
  | [], acc, _, _, q => by simpa [lcG] using q
  | x :: xs, acc, h, hl, q => by
    simp only [List.length_cons] at hl
    have e : (σ.set i (.d x))[i]? = some (.d x) := by simp [hi]
    simp only [lcG, ggName, wipeD, gVar, List.set_set, e]
    refine h x List.mem_cons_self _ ?_
    cases hc : c x
    · simp only [Bool.false_eq_true, if_false]
      exact filt_lc hi xs _ (fun y m => h y (List.mem_cons_of_mem _ m)) (by omega) (by simpa [hc] using q)
    · simp only [if_true]
      exact ⟨by omega, filt_lc hi xs _ (fun y m => h y (List.mem_cons_of_mem _ m)) (by simp; omega) (by simpa [hc] using q)⟩
theorem pok_ints {ys : List D} (h : ∀ y ∈ ys, ∃ i, y = .int i ∧ Sz 240 i) : rps 0 ys = true ∧ sms (2 ^ 240) ys = true ∧ rszs ys = 4303 * ys.length := by
  induction ys with
  | nil => simp [rps, sms, rszs]
  | cons y ys ih =>
    obtain ⟨i, rfl, hi⟩ := h y List.mem_cons_self
    obtain ⟨h1, h2, h3⟩ := ih fun z m => h z (List.mem_cons_of_mem _ m)
    refine ⟨by simp [rps, rp, h1], ?_, by simp [rszs, rsz, h3]; omega⟩
    simp only [sms, hi.sm, h2]
    rfl
theorem int_tup {ys : List D} (h : ∀ y ∈ ys, ∃ i, y = .int i ∧ Sz 240 i) (hl : ys.length ≤ 12) : Pok 1 260 60000 (.tup ys) ∧ Pok 1 260 60000 (.lst ys) := by
  obtain ⟨h1, h2, h3⟩ := pok_ints h
  exact ⟨(pok_tup h1 h2).up (by decide) (by decide) (by omega), (pok_lst h1 h2).up (by decide) (by decide) (by omega)⟩
theorem rszs_app : ∀ xs ys : List D, rszs (xs ++ ys) = rszs xs + rszs ys
  | [], ys => by simp [rszs]
  | x :: xs, ys => by simp [rszs, rszs_app xs ys]; omega
theorem rp_nil (n : Nat) (x : Str) (h : PyData.strOk x = true) : rp n (.str x) = true := by cases n <;> simpa [rp] using h
theorem pok_five {a b c d e : Int} (h1 : Sz 300 a) (h2 : Sz 300 b) (h3 : Sz 300 c) (h4 : Sz 300 d) (h5 : Sz 300 e) : Pok 1 300 22000 (.tup [.int a, .int b, .int c, .int d, .int e]) := by
  refine ⟨by simp [rp, rps], ?_, by simp [rsz, rszs]⟩
  simp only [sm, sms, Bool.and_eq_true, decide_eq_true_eq]
  exact ⟨h1, h2, h3, h4, h5, trivial⟩
theorem sz_sm {i : Int} (h1 : -100 ≤ i) (h2 : i ≤ 100) : Sz 300 i := (Sz.small (by omega) (by omega)).mono (by decide)
theorem dir_n {x : D} (h : isDir x = true) : ∃ i, x = .int i ∧ 0 ≤ i ∧ i ≤ 4 := by
  cases x with
  | int i => exact ⟨i, rfl, of_decide_eq_true h⟩
  | _ => cases h
def Szf (n : Nat) (f : Int → Int) : Prop := ∀ i, 0 ≤ i → i ≤ 4 → Sz n (f i)
theorem Szf.rz {n : Nat} {f : Int → Int} {j u : Int} (h : Szf n f) (hn : 20 ≤ n) (h1 : -100 ≤ u) (h2 : u ≤ 100) : Szf (n + 1) (rz f j u) := fun i i0 i4 => by
  unfold ND.rz
  split
  · exact (h _ i0 i4).add ((Sz.small (by omega) (by omega)).mono hn)
  · exact (h _ i0 i4).add ((Sz.small (by omega) (by omega)).mono hn)
section
variable {σ : List SV} {f g h : GE} {fs : GA} {x y : D} {xs ys : List D} {W : WD} {R : Er → Prop} {s s' t : GS} {E : Ed}
theorem Ev.repr (h : Ev σ f x) (hr : Rok x) : Ev σ (gBlt reprB (ND.gCons f ND.gNil)) (.str (toPy x).shown) := ⟨fun Q q => h.run _ (hr.reprB q)⟩
theorem seq_setL {k : Nat} (h : EvA σ fs xs) (hl : xs.length ≤ sizeLine) (q : s E (σ.set k (.ol xs))) : gSeq (gSetL k (gLst fs)) s E σ := h.run _ ⟨hl, q⟩
theorem seq_app {k : Nat} (hk : σ[k]? = some (.ol xs)) (h : Ev σ f x) (hl : xs.length < sizeLine) (q : s E (σ.set k (.ol (xs ++ [x])))) : gSeq (gApp k f) s E σ := ⟨xs, hk, h.run _ ⟨hl, q⟩⟩
theorem Ev.mul2 (h : Ev σ f (.lst xs)) (hl : xs.length * 2 ≤ sizeLine) : Ev σ (gBin mulD f (gC (.int 2))) (.lst (xs ++ (xs ++ []))) := ⟨fun Q q => h.run _ ⟨by decide, by decide, hl, q⟩⟩
theorem Ev.sum {k : Int → Int} (a : Ev σ f (tup5 k)) : Ev σ (gBlt sumD (ND.gCons f ND.gNil)) (.int (sum5 k)) := ⟨fun Q z => a.run _ (sum5_D z)⟩
theorem Ev.ix2 {a b c : D} (k : Ev σ f (.tup [a, b, c])) : Ev σ (gBin ixD f (gC (.int 2))) c := ⟨fun Q z => k.run _ (by simpa using z)⟩
theorem Ev.not {u : Bool} (a : Ev σ f (.bl u)) : Ev σ (gNot f) (.bl (!u)) := ⟨fun Q z => a.run _ (by simpa using z)⟩
theorem Ev.iff {u v : Int} (a : Ev σ f (.int u)) (b : u = v → Ev σ g x) (c : ¬ u = v → Ev σ h x) : Ev σ (gIf (gB (gBin eqD f (gC (.int v)))) g h) x := ⟨fun Q z => a.run _ (by
  simp
  by_cases e : u = v
  · rw [if_pos e]
    exact (b e).run _ z
  · rw [if_neg e]
    exact (c e).run _ z)⟩
theorem seq_ok (a : Ev σ f (.bl true)) (q : t E σ) : gSeq (gIfS (gNotT (gTru f)) s gSkip) t E σ := a.run _ (by simpa using q)
theorem if_ok (a : Ev σ f (.bl true)) (q : E.nx σ) : gIfS (gNotT (gTru f)) s gSkip E σ := a.run _ (by simpa using q)
theorem rok_pair {x y : D} (h1 : Pok 6 300 200000 x) (h2 : Pok 6 300 200000 y) : Rok (.tup [x, y]) := by
  refine Pok.rok (n := 7) (m := 300) (s := 500000) ⟨?_, ?_, ?_⟩ (by decide) (by decide) (by decide) (by simp [toPy, isDct])
  · simp only [rp, rps, Bool.and_eq_true]
    exact ⟨h1.r, h2.r, trivial⟩
  · simp only [sm, sms, Bool.and_eq_true]
    exact ⟨h1.b, h2.b, trivial⟩
  · have := h1.z
    have := h2.z
    simp only [rsz, rszs]
    omega
end
theorem Szf.pok {n : Nat} {f : Int → Int} (h : Szf n f) (hn : n ≤ 300) : Pok 6 300 200000 (tup5 f) :=
  (pok_five ((h 0 (by decide) (by decide)).mono hn) ((h 1 (by decide) (by decide)).mono hn) ((h 2 (by decide) (by decide)).mono hn) ((h 3 (by decide) (by decide)).mono hn) ((h 4 (by decide) (by decide)).mono hn)).up (by decide) (by decide) (by decide)
theorem Szf.rok {n : Nat} {f : Int → Int} (h : Szf n f) (hn : n ≤ 300) : Rok (tup5 f) := (h.pok hn).rok (by decide) (by decide) (by decide) (by simp [tup5, toPy, isDct])
structure EvP (σ : List SV) (f : GE) (P : D → Prop) : Prop where
  run : ∀ Q : D → Prop, (∀ x, P x → Q x) → f σ Q
theorem seq_setT2 {σ : List SV} {f g : GE} {P P' : D → Prop} {i j : Nat} {s : GS} {E : Ed} (h : EvP σ f P) (k : EvP σ g P') (q : ∀ a b, P a → P' b → s E (setAll [i, j] [a, b] σ)) : gSeq (gSetT [i, j] (ND.gTup (ND.gCons f (ND.gCons g ND.gNil)))) s E σ :=
  h.run _ fun a ha => k.run _ fun b hb => ⟨by simp, [a, b], rfl, rfl, q a b ha hb⟩
theorem seq_par3 {σ : List SV} {f g h : GE} {P P' P2 : D → Prop} {i j k : Nat} {s : GS} {E : Ed} (a : EvP σ f P) (b : EvP σ g P') (c : EvP σ h P2) (q : ∀ x y z, P x → P' y → P2 z → s E (setAll [i, j, k] [x, y, z] σ)) : gSeq (gPar [i, j, k] (ND.gCons f (ND.gCons g (ND.gCons h ND.gNil)))) s E σ :=
  a.run _ fun x hx => b.run _ fun y hy => c.run _ fun z hz => ⟨rfl, q x y z hx hy hz⟩
theorem seq_par2 {σ : List SV} {f g : GE} {P P' : D → Prop} {i j : Nat} {s : GS} {E : Ed} (a : EvP σ f P) (b : EvP σ g P') (q : ∀ x y, P x → P' y → s E (setAll [i, j] [x, y] σ)) : gSeq (gPar [i, j] (ND.gCons f (ND.gCons g ND.gNil))) s E σ :=
  a.run _ fun x hx => b.run _ fun y hy => ⟨rfl, q x y hx hy⟩
theorem seq_rng {σ : List SV} {k : Int} {gt : GG} {g s : GS} {E : Ed} (h0 : -(2 ^ 62) ≤ k) (h1 : k < 2 ^ 62) (q : forG gt g (ND.intsFrom 0 k.toNat) { E with nx := s E } σ) : gSeq (gFor (gRng1 (ND.gCons (gC (.int k)) ND.gNil)) gt g) s E σ := ⟨k, rfl, h0, h1, q⟩
theorem for_two {σ : List SV} {f h : GE} {x y : D} {gt : GG} {g : GS} {E : Ed} (a : Ev σ f x) (b : Ev σ h y) (q : forG gt g [x, y] E σ) : gFor (gIter (ND.gTup (ND.gCons f (ND.gCons h ND.gNil)))) gt g E σ := a.run _ (b.run _ ⟨by simp, q⟩)
theorem Ev.isn {σ : List SV} {f g h : GE} {k : Int → Int} {x : D} (a : Ev σ f (tup5 k)) (b : Ev σ h x) : Ev σ (gIf (gB (gBin (isD false) f (gC .non))) g h) x := ⟨fun Q q => a.run _ ⟨false, rfl, b.run _ q⟩⟩
theorem Ev.isy {σ : List SV} {f g h : GE} {x : D} (a : Ev σ f .non) (b : Ev σ g x) : Ev σ (gIf (gB (gBin (isD false) f (gC .non))) g h) x := ⟨fun Q q => a.run _ ⟨true, rfl, b.run _ q⟩⟩
end ND

/-! ND31: objects of classes of one's own: attributes, isinstance, == by one's own __eq__, makers -/
namespace ND
open PySem PySem.Spec L2
open PyProof.Rows (envOfC)

/-! ### what is known of a class -/
structure ObC (K : Kn) (n : Str) (C : Addr) : Prop where
  mg : K.mg n = some (.ref C)
  cl : Cls K.K C
  ha : PySem.W.findIn K.K (.ref C) "__class__" = some (some (.builtin "object.__class__"))
  hn : PySem.W.specialIn K.K (.builtin "object.__class__") "__get__" = some (some (.builtin "getset_descriptor.__get__"))
  tk : PySem.W.takesIn K.K (.builtin "object.__class__") = some true
  mo : PySem.W.mroIn K.K C (.type "object") = some true
/-- the attributes of instances -/
def FldTab (K : Kn) (fld : Str → Str → Bool) : Prop := ∀ n f, fld n f = true → ∃ C, K.mg n = some (.ref C) ∧ Cls K.K C ∧ NoAttr K.K C f
def tyL : List String := ["NoneType", "bool", "int", "str", "tuple", "list", "dict"]
/-- the classes: isinstance of and against them -/
structure ObTab (K : Kn) (known : Str → Bool) : Prop where
  ob : ∀ n, known n = true → ∃ C, ObC K n C
  bt : ∀ n C, known n = true → K.mg n = some (.ref C) → ∀ t ∈ tyL, PySem.W.kitOne K.K (.type t) (.ref C) = some false
  tb : ∀ n C, known n = true → K.mg n = some (.ref C) → ∀ t ∈ tyL, PySem.W.kitOne K.K (.ref C) (.type t) = some false
  oo : ∀ n m C C', known n = true → known m = true → K.mg n = some (.ref C) → K.mg m = some (.ref C') → PySem.W.kitOne K.K (.ref C) (.ref C') = some (n == m)
  ns : ∀ n C, known n = true → K.mg n = some (.ref C) → ∀ t ∈ tyL, PySem.W.subIn K.K (.type t) (.ref C) = some false
  no : ∀ n m C C', known n = true → known m = true → (n == m) = false → K.mg n = some (.ref C) → K.mg m = some (.ref C') → PySem.W.subIn K.K (.ref C') (.ref C) = some false
theorem RepFs.look {K : Kn} {F : Hp} {f : Str} {x : D} : ∀ {vs : List (Str × V)} {fs : List (Str × D)}, RepFs K F vs fs → fs.lookup f = some x → ∃ v, vs.lookup f = some v ∧ Rep K F v x
  | _, _, .nil, e => by simp at e
  | _, _, .cons (k := k) r t, e => by
    rw [List.lookup_cons] at e ⊢
    cases hk : f == k with
    | true =>
      rw [hk] at e
      cases e
      exact ⟨_, rfl, r⟩
    | false =>
      rw [hk] at e
      exact RepFs.look t e

/-! ### o.f -/
def fldD (fld : Str → Str → Bool) (f : Str) (d : D) (Q : D → Prop) : Prop := ∃ n fs x, d = .obj n fs ∧ fld n f = true ∧ fs.lookup f = some x ∧ Q x
@[simp] theorem fldD_obj (fld : Str → Str → Bool) (f n : Str) (fs : List (Str × D)) (Q : D → Prop) : fldD fld f (.obj n fs) Q ↔ fld n f = true ∧ ∃ x, fs.lookup f = some x ∧ Q x :=
  ⟨fun ⟨_, _, x, e, h1, h2, q⟩ => by cases e; exact ⟨h1, x, h2, q⟩, fun ⟨h1, x, h2, q⟩ => ⟨_, _, x, rfl, h1, h2, q⟩⟩
@[simp] def gFld (fld : Str → Str → Bool) (f : Str) (fa : GE) (σ : List SV) (Q : D → Prop) : Prop := fa σ fun d => fldD fld f d Q
section
variable {B : Bs} {X : Cx} {e : Expr} {f : Str} {pos p p2 p3 : Pos} {fa fb : GE} {fld : Str → Str → Bool} {known : Str → Bool} {n : Str}
theorem ed_fld (T : FldTab X.kn fld) (ha : BD B X e fa) (hb : attributeBase e f X.env (eval e X.env) = eval e X.env := by rfl) : ED B X (.Attribute e f pos) (gFld fld f fa) :=
  ⟨pe_imp (pe_fld ha.run hb) fun s H Q ⟨σ, F, Qd, R, q, k⟩ => ⟨σ, F, _, R, q, fun d ⟨n, fs, x, ed, hf, hl, qx⟩ F1 H1 v g1 d1 r1 => by
    subst ed
    obtain ⟨a, C, dx, vs, hm, rfl, h1, rf⟩ := r1.obj g1.fh
    obtain ⟨C', hm', cl, na⟩ := T n f hf
    have eC : C = C' := Value.ref.inj (Option.some.inj (hm.symm.trans hm'))
    subst eC
    obtain ⟨w, hw, rw_⟩ := rf.look hl
    exact ⟨a, C, dx, vs, w, rfl, h1, cl, na, hw, k x qx F1 H1 w g1 d1 rw_⟩⟩⟩

/-! ### isinstance -/
def isO (n : Str) : D → Bool
  | .obj m _ => m == n
  | _ => false
/-- a value whose type is known -/
def tyX (known : Str → Bool) : D → Bool
  | .obj m _ => known m
  | x => (tyD x).isSome
theorem tyX_ty {x : D} (h : (tyD x).isSome = true) : tyX known x = true := by
  cases x <;> first | exact h | (simp [tyD] at h)
theorem RepB.tyo {W : WT} {K : Kn} {F H : Hp} {v : V} {x : D} (h : RepB W K F H v x) (e : Same F H) (T : ObTab K known) (hx : tyX known x = true) :
    ∃ t, TyX K.K H v t ∧ ((∃ s, tyD x = some s ∧ s ∈ tyL ∧ t = .type s) ∨ ∃ m fs C, x = .obj m fs ∧ known m = true ∧ K.mg m = some (.ref C) ∧ t = .ref C) := by
  by_cases ht : (tyD x).isSome = true
  · obtain ⟨s, hs⟩ := Option.isSome_iff_exists.mp ht
    exact ⟨.type s, h.tyx e hs, .inl ⟨s, hs, tyD_mem hs, rfl⟩⟩
  · cases x with
    | obj m fs =>
      obtain ⟨C, O⟩ := T.ob m hx
      obtain ⟨a, C', dx, vs, hm, rfl, h1, rf⟩ := h.obj e
      have eC : C' = C := Value.ref.inj (Option.some.inj (hm.symm.trans O.mg))
      subst eC
      exact ⟨.ref C', .base (.ins h1 O.cl O.ha O.hn O.tk O.mo), .inr ⟨m, fs, C', rfl, hx, hm, rfl⟩⟩
    | _ => exact absurd hx ht
/-- isinstance(x, n), n a class of one's own -/
@[simp] def gIsO (known : Str → Bool) (n : Str) (fa : GE) (σ : List SV) (Q : D → Prop) : Prop := fa σ fun x => tyX known x = true ∧ Q (.bl (isO n x))
theorem ed_isO (T : ObTab X.kn known) (hk : known n = true) (hg : Gl X "isinstance") (hm : X.mg "isinstance" = none) (gc : Gl X n) (ndb : (n == ("__debug__" : Str)) = false) (ha : BD B X e fa)
    (hst : starEach [e, .Name n p2] X.env = (false, eval e X.env) :: starEach [.Name n p2] X.env := by rfl) (hst2 : starEach [.Name n p2] X.env = [(false, eval (.Name n p2) X.env)] := by rfl)
    (hpl : (backTo pos (starEach [.Name n p2] X.env)).any (·.1) = false := by rfl) : ED B X (.Call (.Name "isinstance" p3) [e, .Name n p2] [] pos) (gIsO known n fa) := by
  obtain ⟨C, O⟩ := T.ob n hk
  have nameC : PE X (.Name n p2) (tC (.ref C)) := pe_glob gc O.mg rfl ndb
  refine ⟨pe_imp (pe_callB call_isi hg hm nbIsi (pa_cons ha.run (pa_cons nameC pa_nil hst2) hst) (by decide) (by decide) hst hpl) fun s H Q ⟨σ, F, Qd, R, q, k⟩ => ?_⟩
  refine ⟨σ, F, _, R, q, fun d ⟨hx, qd⟩ F1 H1 v g1 d1 r1 => ?_⟩
  obtain ⟨t, ty, ht⟩ := r1.tyo g1.fh T hx
  refine ⟨v, .ref C, t, .ref C, isO n d, rfl, .own C, ty, ?_, k _ qd F1 H1 _ g1 d1 (.bl _)⟩
  rcases ht with ⟨z, hz, hm', rfl⟩ | ⟨m, fs, C', rfl, hk', hm', rfl⟩
  · have : isO n d = false := by cases d <;> first | rfl | (simp [tyD] at hz)
    rw [this]
    exact T.bt n C hk O.mg z hm'
  · exact T.oo m n C' C hk' hk hm' O.mg
/-- isinstance with a built-in type, of any value -/
def isiX (known : Str → Bool) : List D → (D → Prop) → Prop
  | [x, .opq (.ty T)], Q => knownT T = true ∧ tyX known x = true ∧ Q (.bl (isiB T x))
  | _, _ => False
theorem c_isiX (T : ObTab X.kn known) : CallR X (.builtin "isinstance") (LCa B X.kn (isiX known)) := callR_by fun vs H Q ⟨F, ds, Qd, e, dk, r, q, k⟩ => by
  unfold isiX at q
  split at q
  · rename_i x S
    obtain ⟨v, u, rfl, r1, r2⟩ := rb2 r
    obtain ⟨h1, h2, h3⟩ := q
    have hu := r2.opq
    subst hu
    have mT : S ∈ ["int", "bool", "str", "tuple", "list", "dict"] := by
      simp only [knownT, Bool.or_eq_true, beq_iff_eq] at h1
      rcases h1 with ((((h | h) | h) | h) | h) | h <;> subst h <;> simp
    obtain ⟨t, ty, ht⟩ := r1.tyo e T h2
    refine ⟨_, call_isi, v, .ty S, t, .type S, isiB S x, rfl, .ty S, ty, ?_, k.here e dk h3 (.bl _)⟩
    rcases ht with ⟨z, hz, hm', rfl⟩ | ⟨m, fs, C', rfl, hk', hm', rfl⟩
    · have : isiB S x = isTb z S := by unfold isiB; rw [hz]
      rw [this]
      exact kit_ty (kitB_all z hm' S mT)
    · refine T.tb m C' hk' hm' S ?_
      simp only [List.mem_cons, List.not_mem_nil, or_false] at mT
      rcases mT with h | h | h | h | h | h <;> subst h <;> simp [tyL]
  · exact q.elim
end
end ND

/-! ND32: == by one's own __eq__; makers -/
namespace ND
open PySem PySem.Spec L2
open PyProof.Rows (envOfC)

/-! ### == -/
def eqX (sps : Str → Option DSp) (W : WD) : D → D → (D → Prop) → Prop
  | .obj n fs, y, Q => ∃ sp, sps n = some sp ∧ sp W [.obj n fs, y] (fun r => isBl r fun b => Q (.bl b)) fun _ => False
  | x, y, Q => eqD x y Q
/-- what of the class n is asked of its own __eq__ -/
structure EqOf (P : Program) (w : World) (K : PySem.W.Frag) (mg : Str → Option Value) (base : Heap) (T : List (Addr × Str)) (k : Nat) (known : Str → Bool) (n : Str) (sp : DSp) : Prop where
  kn : known n = true
  ex : ∃ C f fd ps, mg n = some (.ref C) ∧ PySem.W.findIn K (.ref C) "__eq__" = some (some (.ref f)) ∧ PySem.W.isFn K (.ref f) = true ∧ Binds K fd ps [] ∧ FnOk P w K mg base (L2.CX P w) k f fd ps (liftSp ⟨K, mg⟩ T sp)
  ty : ∀ W x y Q R, sp W [x, y] Q R → tyX known y = true
/-- an operation on data -/
def LO2E (B : Bs) (K : Kn) (g : D → D → (D → Prop) → Prop) : R2 := fun v u H Q => ∃ F x y Qd, Same F H ∧ DeckIn B.W F H ∧ Rep K F v x ∧ Rep K F u y ∧ g x y Qd ∧ Fin B K F H Qd Q
section
variable {B : Bs} {X : Cx} {known : Str → Bool} {k : Nat} {a b : Expr} {fa fb : GE} {g : D → D → (D → Prop) → Prop} {pos : Pos}
theorem lo2e_of {K : Kn} {s : L2.St} {σ : List SV} {F H : Hp} {Qd : D → Prop} {Q : VK} (R : Rel B K σ s F H) (q : gBin g fa fb σ Qd) (k : Fin B K F H Qd Q) : tOp (LO2E B K g) (LE B K fa) (LE B K fb) s H Q :=
  ⟨σ, F, _, R, q, fun x qx F1 H1 v g1 d1 r1 => ⟨σ, F1, _, R.grow g1 d1, qx, fun y qy F2 H2 u g2 d2 r2 => ⟨F2, x, y, Qd, g2.fh, d2, r1.mono g2.ff, r2, qy, k.more (g1.trans g2)⟩⟩⟩
theorem ed_cmpE {op : CmpOp} (ho : OpR X (compareOp op) (LO2E B X.kn g)) (ha : ED B X a fa) (hb : ED B X b fb) (hm : behindInMarks op b = false) : ED B X (.Compare a [op] [b] pos) (gBin g fa fb) :=
  ⟨pe_imp (pe_cmpR ho ha.run hb.run hm) fun s H Q ⟨σ, F, Qd, R, q, k⟩ => lo2e_of R q k⟩
theorem o_eqX {sps : Str → Option DSp} (T : ObTab X.kn known) (hs : ∀ n sp, sps n = some sp → EqOf X.prog X.w X.K X.mg X.base B.W.T k known n sp) (hr : Room k X.A) (hu : X.A.units + 64 < cLine) (hx : Passes (L2.CX X.prog X.w) X (fun _ _ _ => False)) : OpR X (compareOp .Eq) (LO2E B X.kn (eqX sps B.W.p)) := by
  intro pins s σ H x y v u Q I rx ry ⟨F, dx, dy, Qd, e, dk, r1, r2, q, kf⟩
  by_cases ho : ∃ n fs, dx = .obj n fs
  · obtain ⟨n, fs, rfl⟩ := ho
    obtain ⟨sp, h1, q⟩ := q
    have S := hs n sp h1
    obtain ⟨C, f, fd, ps, hm, hq, hf, hb, G⟩ := S.ex
    have R1 := r1
    cases r1 with
    | @obj a C' dxx _ vs _ hm' hF rf =>
    have eC : C' = C := Value.ref.inj (Option.some.inj (hm'.symm.trans hm))
    subst eC
    cases rx
    have ha : H a = some (.ins C' dxx vs) := e _ _ hF
    have rb : RepB B.W X.kn F H y dy := .inl r2
    obtain ⟨t, ty, ht⟩ := rb.tyo e T (S.ty _ _ _ _ _ q)
    obtain ⟨P, Z, p, _⟩ := kit_of I ry ty
    obtain ⟨mA, J, _⟩ := ins_get I.hok ha
    obtain ⟨od, J, _⟩ := J.look
    obtain ⟨m, hF⟩ := I.fr
    have nf : PySem.W.notFirst X.K C' t = true := by
      unfold PySem.W.notFirst
      rcases ht with ⟨z, hz, hm2, rfl⟩ | ⟨m2, fs2, C2, rfl, hk2, hm2, rfl⟩
      · rw [T.ns n C' S.kn hm z hm2]
        simp
      · by_cases en : (n == m2) = true
        · have : n = m2 := beq_iff_eq.mp en
          subst this
          have eC : C2 = C' := Value.ref.inj (Option.some.inj (hm2.symm.trans hm))
          subst eC
          simp
        · rw [T.no n m2 C' C2 S.kn hk2 (Bool.eq_false_iff.mpr en) hm hm2]
          simp
    show wpAny (model X.prog X.w) X.A (richCompare .Eq (.ref a) u) (EP X pins σ Q) X.xe s
    refine PySem.W.cmp_K (op := .Eq) (tb := t) (by omega) hF I.ok.mod.kin J (Z.ty _ _ I.kIn p) nf hq hf ?_
    have want : liftSp X.kn B.W.T sp ([.ref a, y] ++ []) H (fun z H' => (∃ b, z = .bl b) ∧ Q z H') (fun _ _ _ => False) :=
      ⟨B.W.p, F, [.obj n fs, dy], _, fun _ => False, e, dk, by rw [List.append_nil]; exact .cons R1 (.cons r2 .nil), q, fun d ⟨b, ed, qd⟩ F' H' z g' dk' r' => by
        subst ed
        cases r'
        exact ⟨⟨b, rfl⟩, kf _ qd F' H' _ g' dk' (.bl b)⟩, fun _ z => z.elim⟩
    refine wpAny_mono (run_fn (us := [.ref a, u]) (vs := [.ref a, y]) G hr hb .nil hx I (.cons rfl (.cons ry .nil)) want) (fun z s' hz => ?_) fun _ _ z => z
    obtain ⟨v', H', I', rv, ⟨b, eb⟩, qz⟩ := hz
    subst eb
    cases rv
    exact ⟨.bl b, H', I', rfl, qz⟩
  · have q' : eqD dx dy Qd := by
      cases dx <;> first | exact q | exact absurd ⟨_, _, rfl⟩ ho
    exact o_eq hu pins s σ H x y v u Q I rx ry ⟨F, dx, dy, Qd, e, dk, .inl r1, .inl r2, q', kf⟩
end

/-! ### makers -/
/-- what __init__ promises: sp's answer is the object itself -/
def liftInit (K : Kn) (T : List (Addr × Str)) (C : Addr) (sp : DSp) : Sp := fun vs H Q E => ∃ (x dx : Addr) (H0 : Hp) (us : List V) (W : WD) (F : Hp) (ds : List D) (Qd : D → Prop) (Rd : Er → Prop),
  vs = .ref x :: us ∧ H0 x = none ∧ H0 dx = none ∧ dx ≠ x ∧ H = upd (upd H0 dx (.own x)) x (.ins C dx []) ∧ Same F H0 ∧ DeckIn ⟨W, T⟩ F H0 ∧ Reps K F us ds ∧ sp W ds Qd Rd ∧
  (∀ d, Qd d → ∀ F' H', Grow ⟨W, T⟩ F H0 F' H' → DeckIn ⟨W, T⟩ F' H' → Rep K F' (.ref x) d → Q .non H') ∧ FinE ⟨W, T⟩ K F H0 Rd E
def startI (N : Nat) (x : Addr) (n : Str) (ds : List D) : List SV := .oo x n [] :: startD (N - 1) ds
/-- behind __init__'s body -/
@[simp] def endsI (x : Addr) (n : Str) (Q : D → Prop) : Ed := { nx := fun σ => ∃ fs, σ[0]? = some (.oo x n fs) ∧ Q (.obj n fs), rt := fun _ => False, bk := fun _ => False, ct := fun _ => False }
def putFD (f : Str) (v : D) : List (Str × D) → List (Str × D)
  | [] => [(f, v)]
  | (g, x) :: r => if g = f then (g, v) :: r else (g, x) :: putFD f v r
theorem RepFs.put {K : Kn} {F : Hp} {f : Str} {y : V} {d : D} (r : Rep K F y d) : ∀ {vs : List (Str × V)} {fs : List (Str × D)}, RepFs K F vs fs → RepFs K F (L2.putF f y vs) (putFD f d fs)
  | _, _, .nil => .cons r .nil
  | _, _, .cons (k := k) r' t => by
    unfold L2.putF putFD
    by_cases h : k = f
    · rw [if_pos h, if_pos h]
      exact .cons r t
    · rw [if_neg h, if_neg h]
      exact .cons r' (RepFs.put r t)
theorem RepFs.length {K : Kn} {F : Hp} : ∀ {vs : List (Str × V)} {fs : List (Str × D)}, RepFs K F vs fs → vs.length = fs.length
  | _, _, .nil => rfl
  | _, _, .cons _ t => by rw [List.length_cons, List.length_cons, RepFs.length t]
/-- self.f = e -/
def gSetF (fld : Str → Str → Bool) (k : Nat) (f : Str) (fe : GE) : GS := fun E σ => ∃ x n fs, σ[k]? = some (.oo x n fs) ∧ fld n f = true ∧ fs.length < 1000 ∧ fe σ fun d => E.nx (σ.set k (.oo x n (putFD f d fs)))
section
variable {B : Bs} {X : Cx} {fld : Str → Str → Bool} {o value : Expr} {f : Str} {pos pos' : Pos} {fe : GE} {k : Nat}
theorem sd_setF (T : FldTab X.kn fld) (ho : PE X o (tVar k)) (hv : ED B X value fe) (hs : swapsWith value (some (.Attribute o f pos')) pos.line X.env = pure false := by rfl) : SD B X (.Assign [.Attribute o f pos'] value pos) (gSetF fld k f fe) :=
  ⟨ps_imp (ps_fld ho hv.run hs) fun Dn s H ⟨σ, F, E, R, ⟨x, n, fs, e, hf, hl, q⟩, kk⟩ => by
    obtain ⟨C, dx, vs, h1, hm, h2, h3, h4, h5, h6⟩ := R.ownO e
    refine ⟨σ, F, _, R, q, fun d qd F1 H1 v g1 d1 r1 => ?_⟩
    have R1 := R.grow g1 d1
    obtain ⟨C1, dx1, vs1, k1, km, k2, k3, k4, k5, k6⟩ := R1.ownO e
    obtain ⟨C', hm', cl, na⟩ := T n f hf
    have eC : C1 = C' := Value.ref.inj (Option.some.inj (km.symm.trans hm'))
    subst eC
    refine ⟨.ref x, k1, x, C1, dx1, vs1, rfl, k2, cl, na, by rw [k3.length]; exact hl, ?_⟩
    exact kk.nx _ _ F1 _ g1.ff (R1.write e (.inr (.inr ⟨_, _, _, rfl⟩)) k1 (x := .oo x n (putFD f d fs)) ⟨rfl, rfl, C1, dx1, _, km, upd_same, k3.put r1⟩) qd⟩
end
theorem rel_startI {W : WT} {K : Kn} {F H0 : Hp} {N : List Str} {vs : List V} {ds : List D} {x dx C : Addr} {n : Str} (e : Same F H0) (dk : DeckIn W F H0) (r : Reps K F vs ds) (hn : 0 < N.length) (hx : H0 x = none) (hdx : H0 dx = none) (ne : dx ≠ x) (hm : K.mg n = some (.ref C)) :
    Rel ⟨W, F, H0⟩ K (startI N.length x n ds) (L2.start N (.ref x :: vs)) F (upd (upd H0 dx (.own x)) x (.ins C dx [])) := by
  have hx2 : upd H0 dx (.own x) x = none := by rw [upd_ne (Ne.symm ne)]; exact hx
  have g1 : Grow W F H0 F (upd H0 dx (.own x)) := Grow.laid e hdx
  have d1 : DeckIn W F (upd H0 dx (.own x)) := dk.laid hdx
  have g2 : Grow W F (upd H0 dx (.own x)) F (upd (upd H0 dx (.own x)) x (.ins C dx [])) := Grow.laid g1.fh hx2
  have d2 : DeckIn W F (upd (upd H0 dx (.own x)) x (.ins C dx [])) := d1.laid hx2
  refine ⟨g1.trans g2, dk, d2, ?_, fun i => if i = 0 then some x else none, ⟨fun i j a e1 e2 => ?_, fun i a z => ?_⟩, fun i y v e1 e2 => ?_⟩
  · unfold startI startD L2.start
    simp [r.length]
    omega
  · split at e1 <;> split at e2 <;> first | (cases e1; done) | (cases e2; done) | (subst_vars; rfl)
  · split at z
    · cases z
      exact ⟨hx, e.free hx⟩
    · cases z
  · cases i with
    | zero =>
      simp [startI] at e1
      simp [L2.start] at e2
      subst e1 e2
      exact ⟨rfl, rfl, C, dx, [], hm, upd_same, .nil⟩
    | succ i =>
      simp only [Nat.add_one_ne_zero, if_false]
      unfold startI startD at e1
      unfold L2.start at e2
      rw [List.getElem?_cons_succ] at e1
      have e2' : (vs.map some ++ List.replicate (N.length - (vs.length + 1)) none)[i]? = some v := by simpa using e2
      by_cases hi : i < ds.length
      · rw [List.getElem?_append_left (by simpa using hi)] at e1
        rw [List.getElem?_append_left (by simpa [r.length] using hi)] at e2'
        rw [List.getElem?_map] at e1 e2'
        cases ed : ds[i]? with
        | none =>
          rw [ed] at e1
          cases e1
        | some d =>
          rw [ed] at e1
          obtain ⟨u, h1, h2⟩ := r.get ed
          rw [h1] at e2'
          cases e1
          cases e2'
          exact h2
      · rw [List.getElem?_append_right (by simpa using hi)] at e1
        rw [List.getElem?_append_right (by simpa [r.length] using hi)] at e2'
        have h1 := List.eq_of_mem_replicate (List.mem_of_getElem? e1)
        have h2 := List.eq_of_mem_replicate (List.mem_of_getElem? e2')
        subst h1 h2
        exact True.intro
section
variable {P : Program} {w : World} {K : PySem.W.Frag} {mg : Str → Option Value} {base : Heap} {n qual : Str} {st : Stmt} {f C : Addr} {fd : FuncData} {N ps : List Str} {k : Nat} {sp : DSp} {g : WD → (Er → Prop) → GS} {T : List (Addr × Str)} {dvs : List V}
theorem okInit (hm : mg n = some (.ref C)) (F : FunD K "__init__" qual (defArgs st) (defBody st) (defScope st) dvs [] f fd) (S : FnScope N ("self" :: ps) (defScope st)) (hN : 0 < N.length) (hlen : ∀ W ds Q R, sp W ds Q R → ds.length = ps.length)
    (body : ∀ (cdv : Value) (A : Around) (outer : List Env) (s : Shared) (H : Hp) (E : XK) (W : WD) (F H0 : Hp) (R : Er → Prop), Room k (A.deeper (envOfC qual (defScope st) s.heap.objs.size f cdv)) → FinE ⟨W, T⟩ ⟨K, mg⟩ F H0 R E →
      PassesOwn (model P w) (cxD P w K mg base N qual st f cdv A outer s H E).A (cxD P w K mg base N qual st f cdv A outer s H E).env (cxD P w K mg base N qual st f cdv A outer s H E).xe →
      Passes (L2.CX P w) (cxD P w K mg base N qual st f cdv A outer s H E) E → SDs ⟨⟨W, T⟩, F, H0⟩ (cxD P w K mg base N qual st f cdv A outer s H E) (defBody st) (g W R))
    (law : ∀ W ds Q R x, sp W ds Q R → g W R (endsI x n Q) (startI N.length x n ds)) : FnOk P w K mg base (L2.CX P w) (k + 1) f fd ("self" :: ps) (liftInit ⟨K, mg⟩ T C sp) := by
  refine F.ok S (fun vs H Q E ⟨x, dx, H0, us, W, F, ds, Qd, Rd, e1, h1, h2, h3, h4, h5, h6, h7, h8, _⟩ => ?_) fun cdv A outer s H vs Q E hr ⟨x, dx, H0, us, W, F, ds, Qd, Rd, e1, h1, h2, h3, h4, h5, h6, h7, h8, h9, h10⟩ => ?_
  · rw [e1, List.length_cons, List.length_cons, h7.length, hlen _ _ _ _ h8]
  · subst e1 h4
    have hb := body cdv A outer s (upd (upd H0 dx (.own x)) x (.ins C dx [])) E W F H0 Rd hr h10 (passes_of rfl) (passes_call (takes_of rfl rfl rfl rfl) fun _ _ _ _ z => z)
    refine ⟨_, hb.run, startI N.length x n ds, F, endsI x n Qd, rel_startI h5 h6 h7 hN h1 h2 h3 hm, law W ds Qd Rd x h8, ?_⟩
    refine ⟨fun σ s F' H' _ R' ⟨fs, z, qd⟩ => ?_, fun _ _ _ _ _ _ _ z => z.elim, fun _ _ _ _ _ _ z => z.elim, fun _ _ _ _ _ _ z => z.elim⟩
    obtain ⟨C', dx', vs, k1, km, k2, k3, k4, k5, k6⟩ := R'.ownO z
    have g := R'.base.freeze h1 k5 k2
    exact h9 _ qd _ _ g (h6.freeze R'.deck h1) (.obj km upd_same (k3.mono (same_new k5)))
end

/-- n(..) makes an object, and keeps sp -/
structure OkM (P : Program) (w : World) (K : PySem.W.Frag) (mg : Str → Option Value) (base : Heap) (T : List (Addr × Str)) (n qual : Str) (st : Stmt) (k : Nat) (ps : List Str) (dfl : List D) (sp : DSp) : Prop where
  ex : ∃ C f fd dvs, mg n = some (.ref C) ∧ Mk K C f ∧ FunD K "__init__" qual (defArgs st) (defBody st) (defScope st) dvs [] f fd ∧ dvs ≠ [] ∧ (∀ F, Reps ⟨K, mg⟩ F dvs dfl) ∧ FnOk P w K mg base (L2.CX P w) k f fd ("self" :: ps) (liftInit ⟨K, mg⟩ T C sp)
/-- the positional values, the defaults, the keywords' values, in the order pm -/
def perm3 {α : Type} (n d m : Nat) (pm : List Nat) (us its ws : List α) : List α := if us.length = n ∧ its.length = d ∧ ws.length = m then pm.filterMap fun i => (us ++ (its ++ ws))[i]? else []
theorem perm3_self {α : Type} {n d m : Nat} {pm : List Nat} {x : α} {us its ws : List α} (h1 : us.length = n) (h2 : its.length = d) (h3 : ws.length = m) : perm3 (n + 1) d m (0 :: pm.map (· + 1)) (x :: us) its ws = x :: perm3 n d m pm us its ws := by
  unfold perm3
  rw [if_pos ⟨by rw [List.length_cons, h1], h2, h3⟩, if_pos ⟨h1, h2, h3⟩]
  simp [List.filterMap_map, Function.comp_def]
theorem paired_perm3 {α β : Type} {R : α → β → Prop} {n d m : Nat} {pm : List Nat} {us its ws : List α} {us' its' ws' : List β} (h : Paired R us us') (h2 : Paired R its its') (h3 : Paired R ws ws') : Paired R (perm3 n d m pm us its ws) (perm3 n d m pm us' its' ws') := by
  unfold perm3
  rw [paired_len h, paired_len h2, paired_len h3]
  split
  · exact paired_pick (paired_app h (paired_app h2 h3)) pm
  · exact .nil
abbrev BindsM (qual : Str) (st : Stmt) (ps : List Str) (n d : Nat) (ks : List Str) (pm : List Nat) : Prop := ∀ (T : Addr) (kV doc pmv : Value) (an : Option Addr) (cdv ct : Value) (us its ws : List Value), us.length = n + 1 → its.length = d → ws.length = ks.length →
  ∃ k, bindArgs (PySem.W.fnOf "__init__" qual (defArgs st) (defBody st) (defScope st) (.ref T) kV doc pmv an cdv ct) ⟨us, ks.zip ws⟩ = seqItems? (.ref T) >>= k ∧ k (some its.toArray) = pure (((("self" : Str) :: ps) : List Str).zip (perm3 (n + 1) d ks.length (0 :: pm.map (· + 1)) us its ws))
@[simp] def gMake (sp : DSp) (dfl : List D) (n m : Nat) (pm : List Nat) (W : WD) (R : Er → Prop) (fs fk : GA) (σ : List SV) (Q : D → Prop) : Prop := fs σ fun us => fk σ fun ws => us.length = n ∧ ws.length = m ∧ sp W (perm3 n dfl.length m pm us dfl ws) Q R
section
variable {B : Bs} {X : Cx} {k n m : Nat} {ps ks : List Str} {dfl : List D} {sp : DSp} {R : Er → Prop} {E : XK} {x qual : Str} {st : Stmt} {p pos : Pos} {e : Expr} {es : List Expr} {kws : List Keyword} {fs fk : GA} {pm : List Nat}
theorem kbn_of {K : PySem.W.Frag} {f : Addr} {fd : FuncData} {dvs : List V} (F : FunD K "__init__" qual (defArgs st) (defBody st) (defScope st) dvs [] f fd) (hd : dvs ≠ []) (b : BindsM qual st ps n dvs.length ks pm) :
    ∃ its : List Value, KBn K fd ("self" :: ps) (n + 1) ks (fun us ws => perm3 (n + 1) dvs.length ks.length (0 :: pm.map (· + 1)) us its ws) (fun vs zs => perm3 (n + 1) dvs.length ks.length (0 :: pm.map (· + 1)) vs dvs zs) :=
  F.kbindsD (n + 1) ks (fun {α} us its ws => perm3 (n + 1) dvs.length ks.length (0 :: pm.map (· + 1)) us its ws) hd (fun r1 r2 r3 => paired_perm3 r1 r2 r3) b
theorem la_make {K : Kn} {C : Addr} {dvs : List V} {s : L2.St} {σ : List SV} {F H : Hp} {Qd : D → Prop} {Q : VK} (hE : FinE B.W K B.F B.H R E) (hd : ∀ F, Reps K F dvs dfl) (hk : ks.length = m) (Rl : Rel B K σ s F H) (q : gMake sp dfl n m pm B.W.p R fs fk σ Qd) (kf : Fin B K F H Qd Q) :
    tMakeN C n ks.length (liftInit K B.W.T C sp) (fun vs zs => perm3 (n + 1) dvs.length ks.length (0 :: pm.map (· + 1)) vs dvs zs) E (LA B K fs) (LA B K fk) s H Q :=
  ⟨σ, F, _, Rl, q, fun us qus F1 H1 vs g1 d1 r1 => ⟨σ, F1, _, Rl.grow g1 d1, qus, fun ws ⟨l1, l2, qws⟩ F2 H2 zs g2 d2 r2 => by
    have e1 : vs.length = n := r1.length.trans l1
    have e2 : zs.length = ks.length := (r2.length.trans l2).trans hk.symm
    have e3 : dvs.length = dfl.length := (hd F).length
    refine ⟨e1, e2, fun x dx h1 h2 h3 => ?_⟩
    show liftInit K B.W.T C sp (perm3 (n + 1) dvs.length ks.length (0 :: pm.map (· + 1)) (V.ref x :: vs) dvs zs) _ _ E
    rw [perm3_self e1 rfl e2]
    have rr : Reps K F2 (perm3 n dvs.length ks.length pm vs dvs zs) (perm3 n dfl.length m pm us dfl ws) := by
      rw [e3, hk]
      exact Reps.of_pair (paired_perm3 (r1.mono g2.ff).pair (hd F2).pair r2.pair)
    exact ⟨x, dx, H2, _, B.W.p, F2, _, Qd, R, rfl, h1, h2, h3, rfl, g2.fh, d2, rr, qws, fun d qd F3 H3 g3 d3 r3 => ⟨rfl, kf d qd F3 H3 _ ((g1.trans g2).trans g3) d3 r3⟩, hE.more ((Rl.base.trans g1).trans g2)⟩⟩⟩
theorem ed_make (O : OkM X.prog X.w X.K X.mg X.base B.W.T x qual st k ps dfl sp) (hk : ks.length = m) (b : BindsM qual st ps n dfl.length ks pm) (hr : Room (k + 1) X.A) (hx : Passes (L2.CX X.prog X.w) X E) (hE : FinE B.W X.kn B.F B.H R E) (ha : AD B X (e :: es) fs) (hkw : KD B X kws fk) (hg : Gl X x := by rfl)
    (hall : (backToKw pos (keywordEach kws X.env)).all (·.1.isSome) = true := by rfl) (hks : (backToKw pos (keywordEach kws X.env)).filterMap (·.1) = ks := by rfl)
    (hdb : (x == ("__debug__" : Str)) = false := by decide) (he : starEach (e :: es) X.env = (false, eval e X.env) :: starEach es X.env := by rfl)
    (hpl : ((backTo pos (starEach (e :: es) X.env)).any (·.1) || (backToKw pos (keywordEach kws X.env)).any (·.1.isNone)) = false := by rfl) : ED B X (.Call (.Name x p) (e :: es) kws pos) (gMake sp dfl n m pm B.W.p R fs fk) := by
  obtain ⟨C, f, fd, dvs, hm, M, F, hd, hD, G⟩ := O.ex
  have el : dvs.length = dfl.length := (hD B.F).length
  rw [← el] at b
  obtain ⟨its, kb⟩ := kbn_of F hd b
  exact ⟨pe_imp (pe_makeN M G hr hg hm kb hx ha.run hkw.run hall hks hdb he hpl) fun s H Q ⟨σ, F, Qd, Rl, q, kf⟩ => la_make hE hD hk Rl q kf⟩
end
end ND

/-! ND33: sorted of tuples of integers; constants of the module -/
namespace ND
open PySem PySem.Spec L2
open PyProof.Rows (envOfC)

/-! ### the order of lists of integers -/
def lexI : List Int → List Int → Bool
  | x :: xs, y :: ys => if x = y then lexI xs ys else decide (x < y)
  | [], _ :: _ => true
  | _, [] => false
theorem lexI_asym : ∀ {xs ys : List Int}, lexI xs ys = true → lexI ys xs = false
  | [], [], h => by simp [lexI] at h
  | [], _ :: _, _ => by simp [lexI]
  | _ :: _, [], h => by simp [lexI] at h
  | x :: xs, y :: ys, h => by
    unfold lexI at h ⊢
    by_cases e : x = y
    · rw [if_pos e] at h
      rw [if_pos e.symm]
      exact lexI_asym h
    · rw [if_neg e] at h
      rw [if_neg (fun z => e z.symm)]
      have := of_decide_eq_true h
      exact decide_eq_false (by omega)
theorem lexI_tot : ∀ {xs ys : List Int}, lexI xs ys = false → lexI ys xs = false → xs = ys
  | [], [], _, _ => rfl
  | [], _ :: _, h, _ => by simp [lexI] at h
  | _ :: _, [], _, h => by simp [lexI] at h
  | x :: xs, y :: ys, h, h' => by
    unfold lexI at h h'
    by_cases e : x = y
    · rw [if_pos e] at h
      rw [if_pos e.symm] at h'
      rw [e, lexI_tot h h']
    · rw [if_neg e] at h
      rw [if_neg (fun z => e z.symm)] at h'
      have := of_decide_eq_false h
      have := of_decide_eq_false h'
      omega
theorem lexI_tr : ∀ {xs ys zs : List Int}, lexI ys xs = false → lexI zs ys = false → lexI zs xs = false
  | [], ys, zs, h1, h2 => by
    cases zs with
    | nil => simp [lexI]
    | cons z zs => simp [lexI]
  | x :: xs, [], zs, h1, h2 => by simp [lexI] at h1
  | x :: xs, y :: ys, [], h1, h2 => by simp [lexI] at h2
  | x :: xs, y :: ys, z :: zs, h1, h2 => by
    unfold lexI at h1 h2 ⊢
    by_cases e1 : y = x
    · rw [if_pos e1] at h1
      by_cases e2 : z = y
      · rw [if_pos e2] at h2
        rw [if_pos (e2.trans e1)]
        exact lexI_tr h1 h2
      · rw [if_neg e2] at h2
        rw [if_neg (fun e => e2 (e.trans e1.symm))]
        have := of_decide_eq_false h2
        exact decide_eq_false (by omega)
    · rw [if_neg e1] at h1
      have a1 := of_decide_eq_false h1
      by_cases e2 : z = y
      · rw [if_neg (fun e => e1 (e2.symm.trans e))]
        exact decide_eq_false (by omega)
      · rw [if_neg e2] at h2
        have a2 := of_decide_eq_false h2
        rw [if_neg (by omega)]
        exact decide_eq_false (by omega)
theorem swo_lexI {α : Type} (k : α → List Int) : SrtO.Swo fun v u => lexI (k v) (k u) := ⟨fun _ _ h => lexI_asym h, fun _ _ _ h1 h2 => lexI_tr h1 h2⟩

section
variable {prog : Program} {w : World} {A : Around} {E : Value → Shared → Prop} {s : Shared} {Q : Bool → Shared → Prop}
theorem lex_intsI {b : Bool} {xs ys : List Value} {ns ms : List Int} (i : Nat) (hx : PyProof.Rows.IntsAre xs ns) (hy : PyProof.Rows.IntsAre ys ms) (hl : ns.length = ms.length)
    (h : Q (lexI ns ms) s) : PySem.W.KatLex prog w A b false Q (xs.zip ys) i s := by
  induction hx generalizing ys ms i with
  | nil =>
    cases hy with
    | nil => exact PySem.W.kat_nil h
    | cons q u hy => simp at hl
  | @cons p t xs ns hx ih =>
    cases hy with
    | nil => simp at hl
    | @cons q u ys ms hy =>
      have hl' : ns.length = ms.length := by simpa using hl
      show PySem.W.KatLex prog w A b false Q ((Value.int p t, Value.int q u) :: xs.zip ys) i s
      refine PySem.W.kat_cons (wpAny_eqBool_int ?_)
      unfold lexI at h
      by_cases e : p = q
      · subst e
        rw [beq_self_eq_true]
        rw [if_pos rfl] at h
        refine PySem.W.kat_yes ?_
        first
          | exact ih (i + 1) hy hl' h
          | exact ih _ _ (i + 1) hy hl' h
      · rw [show (p == q) = false from beq_eq_false_iff_ne.mpr e]
        rw [if_neg e] at h
        exact PySem.W.kat_no (_root_.TS.oneLt_ints _ h)
/-- tuples of d integers each -/
def TupsI (h : Heap) (d : Nat) (vs : List Value) : Prop := ∀ v, v ∈ vs → ∃ ns, _root_.TS.TupInts h v ns ∧ ns.length = d
theorem firstsI {h : Heap} {d : Nat} (hd : 1 ≤ d) : ∀ vs : List Value, TupsI h d vs → ∃ fs, PySem.W.KatTups h vs fs ∧ fs.length = vs.length ∧ ∀ f, f ∈ fs → ∃ n t, f = Value.int n t
  | [], _ => ⟨[], PySem.W.KatTups.nil, rfl, fun f hf => by simp at hf⟩
  | v :: vs, x => by
    obtain ⟨fs, k, hl, hi⟩ := firstsI hd vs fun u hu => x u (List.mem_cons_of_mem _ hu)
    obtain ⟨ns, ⟨a, xs, rfl, ⟨o, ho, hc, n, hdt⟩, i⟩, hn⟩ := x v (List.mem_cons_self ..)
    obtain ⟨y, ys, e⟩ : ∃ y ys, xs.toList = y :: ys := by
      cases q : xs.toList with
      | nil =>
        rw [q] at i
        have l := i.length
        rw [List.length_nil, hn] at l
        omega
      | cons y ys => exact ⟨y, ys, rfl⟩
    obtain ⟨m, t, hy⟩ := i.all y (by rw [e]; exact List.mem_cons_self ..)
    refine ⟨y :: fs, PySem.W.KatTups.cons ho hc hdt ?_ k, by simp [hl], ?_⟩
    · have z := congrArg (fun l : List Value => l[0]?) e
      simpa using z
    · intro f hf
      rcases List.mem_cons.mp hf with rfl | hf
      · exact ⟨m, t, hy⟩
      · exact hi f hf
theorem sortableI {a : Addr} {vs : List Value} {d : Nat} (hd : 1 ≤ d) (h0 : 0 < vs.length) (hp : TupsI s.heap d vs) (k : Value → List Int) (hk : ∀ v ∈ vs, ∀ ns, _root_.TS.TupInts s.heap v ns → k v = ns) (ha : ∀ o, s.heap.get? a = some o → o.cls ≠ .type "tuple") : SrtO.SortableO prog w A s a vs fun v u => lexI (k v) (k u) := by
  intro h' keep
  have kp : ∀ b o, s.heap.get? b = some o → o.cls = .type "tuple" → h'.get? b = some o := fun b o e c => keep b o (fun z => by subst z; exact ha o e c) e
  have hp' : TupsI h' d vs := fun v hv => let ⟨ns, t, r⟩ := hp v hv; ⟨ns, t.keeps kp, r⟩
  obtain ⟨fs, h1, h2, h3⟩ := firstsI hd vs hp'
  refine ⟨PyProof.Rows.tuples' true, fun Q E hq => ?_, fun p q hm hm' => ?_⟩
  · refine PySem.W.kat_kind (T := .type "int") h1 (by omega) (fun f hm => ?_) (by rfl) ?_
    · obtain ⟨x, t, rfl⟩ := h3 f hm
      exact PySem.W.Looks.now
    · have e : (Value.type "int" != Value.type "tuple") = true := by first | decide +kernel | rfl | decide
      rw [e]
      exact hq
  · obtain ⟨ns, tp, lp⟩ := hp _ hm
    obtain ⟨ms, tq, lq⟩ := hp _ hm'
    show wpAny (model prog w) A (PyProof.Rows.keyLt' (PyProof.Rows.tuples' true) p.1 q.1) (fun r s' => s' = { s with heap := h' } ∧ r = lexI (k p.1) (k q.1)) (fun _ _ => False) { s with heap := h' }
    rw [hk _ hm _ tp, hk _ hm' _ tq]
    obtain ⟨a1, xs, e1, ⟨o, ho, hc, n, hdt⟩, i⟩ := tp.keeps kp
    obtain ⟨a2, ys, e2, ⟨o', ho', hc', n', hdt'⟩, i'⟩ := tq.keeps kp
    rw [e1, e2]
    refine PySem.W.kat_lt ho hdt ho' hdt' ?_
    have sz : decide (xs.size < ys.size) = false := by
      have l1 := i.length
      have l2 := i'.length
      rw [Array.length_toList] at l1 l2
      exact decide_eq_false (by omega)
    rw [sz]
    exact lex_intsI 0 i i' (by omega) ⟨rfl, rfl⟩
end

/-! ### sorted(xs), xs a list of tuples of d integers each -/
theorem perm_reps {K : Kn} {F : Hp} {ys xs : List V} (p : ys.Perm xs) : ∀ {ds : List D}, Reps K F xs ds → ∃ es : List D, es.Perm ds ∧ Reps K F ys es := by
  induction p with
  | nil =>
    intro ds r
    cases r
    exact ⟨[], .refl _, .nil⟩
  | cons x _ ih =>
    intro ds r
    cases r with
    | cons r t =>
      obtain ⟨es, pe, re⟩ := ih t
      exact ⟨_ :: es, pe.cons _, .cons r re⟩
  | swap x y l =>
    intro ds r
    cases r with
    | cons r t =>
      cases t with
      | cons r2 t => exact ⟨_, List.Perm.swap _ _ _, .cons r2 (.cons r t)⟩
  | trans _ _ ih1 ih2 =>
    intro ds r
    obtain ⟨es, pe, re⟩ := ih2 r
    obtain ⟨es', pe', re'⟩ := ih1 re
    exact ⟨es', pe'.trans pe, re'⟩
def TupV (K : PySem.W.Frag) (H : Hp) (x : V) (ns : List Int) : Prop := ∃ t, x = .ref t ∧ SqT K H t (ns.map V.int)
def rSortV (K : PySem.W.Frag) : List V → Hp → VK → Prop := fun vs H Q => ∃ (a : Addr) (xs : List V) (d : Nat), vs = [V.ref a] ∧ SqL K H a xs ∧ 1 ≤ d ∧ (∀ x ∈ xs, ∃ ns, TupV K H x ns ∧ ns.length = d) ∧
  ∀ (ys : List V) (p : Addr), ys.Perm xs → ys.Pairwise (fun x y => ∀ n m, TupV K H x n → TupV K H y m → lexI m n = false) → H p = none → Q (.ref p) (upd H p (.lst ys))
section
variable {X : Cx} {B : Bs}
theorem tupV_raw {pins : List (Addr × Obj)} {σ : L2.St} {H : Hp} {s : Shared} (I : Inv X pins σ H s) {t : Addr} {ns : List Int} (h : SqT X.K H t (ns.map V.int)) : _root_.TS.TupInts s.heap (.ref t) ns := by
  obtain ⟨its, rv, hT, _⟩ := I.tuple h
  exact ⟨t, its.toArray, rfl, hT, by simpa using rv.ints⟩
theorem cr_sortV : CallR X (.builtin "sorted") (rSortV X.K) := by
  intro pins s σ H vs us Q I r h
  obtain ⟨a, xs, d, rfl, hs, hd, hx, q⟩ := h
  obtain ⟨its, rv, hl, hz⟩ := I.list hs
  obtain ⟨u, rfl, ru⟩ := vals1 r
  obtain rfl : u = Value.ref a := ru
  obtain ⟨e1, e2⟩ := refs_back rv fun x m => by
    obtain ⟨ns, ⟨t, e, _⟩, _⟩ := hx x m
    exact ⟨t, e⟩
  have tups : TupsI s.heap d its := fun v hv => by
    obtain ⟨t, rfl⟩ := e2 v hv
    have hm : V.ref t ∈ xs := by rw [e1]; exact List.mem_map.mpr ⟨_, hv, rfl⟩
    obtain ⟨ns, ⟨t', e, ht⟩, hn⟩ := hx _ hm
    cases e
    exact ⟨ns, tupV_raw I ht, hn⟩
  refine SrtO.sorted_ord (swo_lexI (_root_.TS.intsOf s.heap)) hl.isList (by rw [← rv.length]; exact hz) (fun h2 h₁ a ha kk => ?_) fun out hs hb => ?_
  · have tups' : TupsI h₁ d its := fun v hv => let ⟨ns, t, r⟩ := tups v hv; ⟨ns, t.keeps fun b o e _ => (kk b o e).2, r⟩
    refine sortableI (s := { s with heap := h₁ }) hd (by omega) tups' _ (fun v hv ns tn => ?_) fun o e => ?_
    · obtain ⟨ns', t', _⟩ := tups v hv
      rw [t'.ints]
      have t2 := t'.keeps (h' := h₁) fun b o e _ => (kk b o e).2
      exact t2.ints.symm.trans tn.ints
    · have e' : some o = some (PyProof.Rows.seqObj "list" its.toArray 0) := e.symm.trans ha
      cases e'
      intro c
      exact absurd (Value.type.inj c) (by decide)
  · obtain ⟨ep, he'⟩ := PyProof.Rows.sortedAll_at s.heap its out.toArray
    have h3 : ∀ u ∈ out, ∃ a, u = Value.ref a := fun u hu => e2 u (hb.perm.mem_iff.mp hu)
    have hp : (out.map backV).Perm xs := by
      rw [e1]
      exact hb.perm.map backV
    have hlen : (out.map backV).length ≤ sizeLine := by
      rw [hp.length_eq]
      exact hz
    refine ⟨.ref _, upd H (s.heap.objs.size + 1) (.lst (out.map backV)), I.laid (t' := s.toks) (fun _ _ => PyProof.Rows.sortedAll_old) (Nat.le_succ _) ⟨hlen, out, ep, vals_back h3, he'⟩, rfl, q _ _ hp ?_ (I.hok.fresh (Nat.le_succ _))⟩
    rw [List.pairwise_map]
    refine List.Pairwise.imp_of_mem (fun {u v} hu hv huv n m hn hm => ?_) hs
    obtain ⟨t, et, ht⟩ := hn
    obtain ⟨t', et', ht'⟩ := hm
    obtain ⟨au, rfl⟩ := h3 _ hu
    obtain ⟨av, rfl⟩ := h3 _ hv
    cases et
    cases et'
    rw [← (tupV_raw I ht).ints, ← (tupV_raw I ht').ints]
    exact huv
def numL : List D → Option (List Int)
  | [] => some []
  | .int i :: xs => (numL xs).map (i :: ·)
  | _ => none
/-- the integers of a tuple -/
def numsT : D → List Int
  | .tup xs => (numL xs).getD []
  | _ => []
theorem numL_map : ∀ ns : List Int, numL (ns.map D.int) = some ns
  | [] => rfl
  | n :: ns => by simp [numL, numL_map ns]
@[simp] theorem numsT_map (ns : List Int) : numsT (.tup (ns.map D.int)) = ns := by simp [numsT, numL_map]
theorem reps_intsV {K : Kn} {F : Hp} : ∀ {ns : List Int} {vs : List V}, Reps K F vs (ns.map D.int) → vs = ns.map V.int
  | [], _, .nil => rfl
  | n :: ns, _, .cons r t => by
    cases r
    rw [reps_intsV t]
    rfl
theorem Rep.tupV {K : Kn} {F H : Hp} {v : V} {ns : List Int} (h : Rep K F v (.tup (ns.map D.int))) (e : Same F H) : TupV K.K H v ns := by
  cases h with
  | tup h r => exact ⟨_, rfl, same_t e (by rw [← reps_intsV r]; exact h)⟩
def sortT : List D → (List D → Prop) → Prop
  | [.lst xs], Q => (∃ d, 1 ≤ d ∧ ∀ x ∈ xs, ∃ ns : List Int, x = .tup (ns.map D.int) ∧ ns.length = d) ∧ ∀ ys : List D, ys.Perm xs → ys.Pairwise (fun x y => lexI (numsT y) (numsT x) = false) → Q ys
  | _, _ => False
theorem c_sortT : CallR X (.builtin "sorted") (LCf B X.kn sortT) := callR_by fun vs H Q ⟨F, ds, Qd, e, dk, r, q, k⟩ => by
  unfold sortT at q
  split at q
  · obtain ⟨v, rfl, r1⟩ := rb1 r
    obtain ⟨a, us, rfl, st, rs⟩ := r1.lst e
    obtain ⟨⟨d, hd, hx⟩, q⟩ := q
    have each : ∀ x ∈ us, ∃ y ∈ _, Rep X.kn F x y := fun x m => by
      obtain ⟨i, hi, ex⟩ := List.mem_iff_getElem.mp m
      obtain ⟨y, hy, ry⟩ := rs.getV (i := i) (u := x) (by rw [List.getElem?_eq_getElem hi, ex])
      exact ⟨y, List.mem_of_getElem? hy, ry⟩
    refine ⟨_, cr_sortV, a, us, d, rfl, SqL.of st, hd, fun x m => ?_, fun ys p pm pw hp => ?_⟩
    · obtain ⟨y, my, ry⟩ := each x m
      obtain ⟨ns, rfl, hn⟩ := hx y my
      exact ⟨ns, ry.tupV e, hn⟩
    · obtain ⟨es, pe, re⟩ := perm_reps pm rs
      refine k.laid e dk (q es pe ?_) hp re
      rw [List.pairwise_iff_getElem] at pw ⊢
      intro i j hi hj hij
      have li : i < ys.length := by rw [re.length]; exact hi
      have lj : j < ys.length := by rw [re.length]; exact hj
      have z := pw i j li lj hij
      obtain ⟨xi, h1, r1⟩ := re.getV (List.getElem?_eq_getElem li)
      obtain ⟨xj, h2, r2⟩ := re.getV (List.getElem?_eq_getElem lj)
      rw [List.getElem?_eq_getElem hi] at h1
      rw [List.getElem?_eq_getElem hj] at h2
      cases h1
      cases h2
      obtain ⟨ns, e1, _⟩ := hx _ (pe.mem_iff.mp (List.getElem_mem hi))
      obtain ⟨ms, e2, _⟩ := hx _ (pe.mem_iff.mp (List.getElem_mem hj))
      rw [e1] at r1 ⊢
      rw [e2] at r2 ⊢
      rw [numsT_map, numsT_map]
      exact z ns ms (r1.tupV e) (r2.tupV e)
  · exact q.elim
end

/-! ### constants of the module -/
structure GlobC (K : Kn) (x : Str) (d : D) : Prop where
  ex : ∃ v u, K.mg x = some u ∧ RelV v u ∧ ∀ F, Rep K F v d
theorem ed_glob {B : Bs} {X : Cx} {x : Str} {pos : Pos} {d : D} (G : GlobC X.kn x d) (hg : Gl X x := by rfl) (ndb : (x == ("__debug__" : Str)) = false := by decide) : ED B X (.Name x pos) (gC d) := by
  obtain ⟨v, u, hm, rv, r⟩ := G.ex
  exact ed_c (pe_glob hg hm rv ndb) r
theorem rep_ktup {K : Kn} {a : Addr} {dd : Option Addr} {its : Array Value} {n : Nat} {sl : Array (Option Value)} {vs : List V} {ds : List D} (h : K.K.lookup a = some ⟨.type "tuple", dd, .seq its n, sl⟩) (hl : its.size ≤ sizeLine) (hv : Vals vs its.toList) (r : ∀ F, Reps K F vs ds) : ∀ F, Rep K F (.ref a) (.tup ds) :=
  fun F => .tup (.inr ⟨_, its, n, h, rfl, rfl, hl, hv⟩) (r F)
end ND

/-! ND34: what the printed text of a law with objects asks -/
namespace ND
open PySem PySem.Spec L2
open PyProof.Rows (envOfC)
theorem td_cmpE {B : Bs} {X : Cx} {a b : Expr} {pos : Pos} {fa fb : GE} {g : D → D → (D → Prop) → Prop} {op : CmpOp} (ho : OpR X (compareOp op) (LO2E B X.kn g)) (ha : ED B X a fa) (hb : ED B X b fb) (hm : behindInMarks op b = false) : TD B X (.Compare a [op] [b] pos) (gB (gBin g fa fb)) :=
  ⟨pt_imp (pt_cmpR ho ha.run hb.run hm) fun s H Q ⟨σ, F, Qd, R, q, k⟩ => lo2e_of R q (fin_b k)⟩
theorem relv_int (i : Int) (t : Tok) : RelV (.int i) (.int i t) := ⟨t, rfl⟩
theorem relv_str (x : Str) (t : Tok) : RelV (.str x) (.str x t) := ⟨t, rfl⟩
theorem nbSorted : bootBuiltins "sorted" = some (.builtin "sorted") := by decide +kernel
section
variable {P : Program} {w : World} {K : PySem.W.Frag} {mg : Str → Option Value} {base : Heap} {n qual : Str} {st : Stmt} {f C : Addr} {fd : FuncData} {k : Nat} {sp : DSp} {T : List (Addr × Str)} {known : Str → Bool}
theorem eqof (kn : known n = true) (hm : mg n = some (.ref C)) (hq : PySem.W.findIn K (.ref C) "__eq__" = some (some (.ref f))) (hf : PySem.W.isFn K (.ref f) = true) (F : Fun K "__eq__" qual st f fd)
    (b : ∀ (kV doc pm : Value) (an : Option Addr) (cdv ct : Value) (us : List Value), us.length = 2 → bindArgs (PySem.W.fnOf "__eq__" qual (defArgs st) (defBody st) (defScope st) .none kV doc pm an cdv ct) ⟨us, []⟩ = pure (((["self", "other"] : List Str)).zip us))
    (G : FnOk P w K mg base (L2.CX P w) k f fd ["self", "other"] (liftSp ⟨K, mg⟩ T sp)) (ty : ∀ W x y Q R, sp W [x, y] Q R → tyX known y = true) : EqOf P w K mg base T k known n sp := by
  refine ⟨kn, ⟨C, f, fd, _, hm, hq, hf, ?_, G⟩, ty⟩
  obtain ⟨oc, od, kV, doc, pm, an, cdv, ct, osl, rfl, lk, hcd⟩ := F.ex
  exact .all (b kV doc pm an cdv ct)
/-- __init__ with defaults -/
theorem fund_mk {oc : Value} {od : Option Addr} {D : Addr} {kV doc pm : Value} {an : Option Addr} {cdv ct : Value} {osl : Array (Option Value)} {o : Obj} {its : List Value} {m : Nat} {dvs : List V}
    (l : K.lookup f = some ⟨oc, od, .func (PySem.W.fnOf "__init__" qual (defArgs st) (defBody st) (defScope st) (.ref D) kV doc pm an cdv ct), osl⟩) (hc : PySem.W.codeIn K cdv qual = true) (kp : PySem.W.keepIn K (.ref f) = true)
    (hd : dvs ≠ []) (lD : K.lookup D = some o) (oD : o.data = .seq its.toArray m) (r : Vals dvs its) :
    FunD K "__init__" qual (defArgs st) (defBody st) (defScope st) dvs [] f (PySem.W.fnOf "__init__" qual (defArgs st) (defBody st) (defScope st) (.ref D) kV doc pm an cdv ct) :=
  ⟨⟨oc, od, .ref D, kV, doc, pm, an, cdv, ct, osl, rfl, l, hc, .inr ⟨hd, D, o, its, m, rfl, lD, oD, r⟩, .inl rfl⟩, kp⟩
end
theorem obtab_one {K : Kn} {n : Str} {C : Addr} (O : ObC K n C) (bt : ∀ t ∈ tyL, PySem.W.kitOne K.K (.type t) (.ref C) = some false) (tb : ∀ t ∈ tyL, PySem.W.kitOne K.K (.ref C) (.type t) = some false)
    (oo : PySem.W.kitOne K.K (.ref C) (.ref C) = some true) (ns : ∀ t ∈ tyL, PySem.W.subIn K.K (.type t) (.ref C) = some false) : ObTab K fun m => m == n := by
  have one : ∀ m C', (m == n) = true → K.mg m = some (.ref C') → m = n ∧ C' = C := fun m C' h e => by
    have := beq_iff_eq.mp h
    subst this
    exact ⟨rfl, Value.ref.inj (Option.some.inj (e.symm.trans O.mg))⟩
  refine ⟨fun m h => ?_, fun m C' h e t ht => ?_, fun m C' h e t ht => ?_, fun m m' C1 C2 h h' e e' => ?_, fun m C' h e t ht => ?_, fun m m' C1 C2 h h' ne e e' => ?_⟩
  · have := beq_iff_eq.mp h
    subst this
    exact ⟨C, O⟩
  · obtain ⟨rfl, rfl⟩ := one m C' h e
    exact bt t ht
  · obtain ⟨rfl, rfl⟩ := one m C' h e
    exact tb t ht
  · obtain ⟨rfl, rfl⟩ := one m C1 h e
    obtain ⟨rfl, rfl⟩ := one m' C2 h' e'
    rw [beq_self_eq_true]
    exact oo
  · obtain ⟨rfl, rfl⟩ := one m C' h e
    exact ns t ht
  · obtain ⟨rfl, rfl⟩ := one m C1 h e
    obtain ⟨rfl, rfl⟩ := one m' C2 h' e'
    rw [beq_self_eq_true] at ne
    cases ne
end ND

/-! ND35: golden numbers (first written for k06, k07) -/
namespace ND
open PySem PySem.Spec L2
theorem five_sq : ∀ (n : Nat) (x b : Nat), b ≤ n → x * x = 5 * b * b → b = 0
  | 0, x, b, h, _ => by omega
  | n + 1, x, b, h, e => by
    have h5 : x % 5 = 0 := by
      have h1 : (x * x) % 5 = 0 := by rw [e, Nat.mul_assoc, Nat.mul_mod_right]
      rw [Nat.mul_mod] at h1
      have h2 : x % 5 < 5 := Nat.mod_lt _ (by decide)
      generalize x % 5 = y at h1 h2 ⊢
      have : y = 0 ∨ y = 1 ∨ y = 2 ∨ y = 3 ∨ y = 4 := by omega
      rcases this with h | h | h | h | h <;> subst h <;> simp_all
    obtain ⟨y, rfl⟩ : ∃ y, x = 5 * y := ⟨x / 5, by omega⟩
    have e2 : b * b = 5 * y * y := by
      have : 5 * y * (5 * y) = 5 * (5 * y * y) := by simp [Nat.mul_assoc, Nat.mul_comm, Nat.mul_left_comm]
      have h3 : 5 * b * b = 5 * (b * b) := Nat.mul_assoc _ _ _
      omega
    by_cases hb : b = 0
    · exact hb
    · have hy : y < b := by
        rcases Nat.lt_or_ge y b with h | h
        · exact h
        · have h1 := Nat.mul_le_mul h h
          have h2 : 5 * y * y = 5 * (y * y) := Nat.mul_assoc _ _ _
          have h3 : 0 < b * b := Nat.mul_pos (by omega) (by omega)
          omega
      have z := five_sq n b y (by omega) e2
      subst z
      have : b * b = 0 := by omega
      exact absurd ((Nat.mul_eq_zero.mp this).elim id id) hb
theorem no_tie {x b : Int} (hb : b ≠ 0) : x * x ≠ 5 * b * b := fun e => by
  have e2 : x.natAbs * x.natAbs = 5 * b.natAbs * b.natAbs := by
    have := congrArg Int.natAbs e
    rw [Int.natAbs_mul, Int.natAbs_mul, Int.natAbs_mul] at this
    exact this
  have := five_sq b.natAbs x.natAbs b.natAbs (Nat.le_refl _) e2
  omega

abbrev tri (a b m : Int) : D := .tup [.int a, .int b, .int m]
/-- the common divisor with the sign of d -/
def cdv (a b d : Int) : Int := if d < 0 then -((Nat.gcd (Nat.gcd a.natAbs b.natAbs) d.natAbs : Nat) : Int) else ((Nat.gcd (Nat.gcd a.natAbs b.natAbs) d.natAbs : Nat) : Int)
/-- the reduced number -/
def red (a b d : Int) : D := tri (a.fdiv (cdv a b d)) (b.fdiv (cdv a b d)) (d.fdiv (cdv a b d))
theorem cdv_ne {a b d : Int} (h : d ≠ 0) : cdv a b d ≠ 0 := by
  have : 0 < Nat.gcd (Nat.gcd a.natAbs b.natAbs) d.natAbs := Nat.gcd_pos_of_pos_right _ (Int.natAbs_pos.mpr h)
  unfold cdv
  split <;> omega
theorem cdv_neg {a b d : Int} (h : d ≠ 0) : cdv (-a) (-b) (-d) = -cdv a b d := by
  unfold cdv
  rw [Int.natAbs_neg, Int.natAbs_neg, Int.natAbs_neg]
  rcases Int.lt_or_gt_of_ne h with h | h
  · rw [if_neg (by omega), if_pos h, Int.neg_neg]
  · rw [if_pos (by omega), if_neg (by omega)]
theorem red_neg {a b d : Int} (h : d ≠ 0) : red (-a) (-b) (-d) = red a b d := by
  unfold red
  rw [cdv_neg h, Int.neg_fdiv_neg, Int.neg_fdiv_neg, Int.neg_fdiv_neg]
theorem cdv_one (a b : Int) : cdv a b 1 = 1 := by
  unfold cdv
  rw [if_neg (by decide)]
  simp
theorem red_one (a b : Int) : red a b 1 = tri a b 1 := by
  unfold red
  rw [cdv_one, Int.fdiv_one, Int.fdiv_one, Int.fdiv_one]
theorem cdv_dvd (a b d : Int) : cdv a b d ∣ a ∧ cdv a b d ∣ b ∧ cdv a b d ∣ d := by
  have h1 : (((Nat.gcd (Nat.gcd a.natAbs b.natAbs) d.natAbs : Nat) : Int)) ∣ a := Int.ofNat_dvd_left.mpr (Nat.dvd_trans (Nat.gcd_dvd_left _ _) (Nat.gcd_dvd_left _ _))
  have h2 : (((Nat.gcd (Nat.gcd a.natAbs b.natAbs) d.natAbs : Nat) : Int)) ∣ b := Int.ofNat_dvd_left.mpr (Nat.dvd_trans (Nat.gcd_dvd_left _ _) (Nat.gcd_dvd_right _ _))
  have h3 : (((Nat.gcd (Nat.gcd a.natAbs b.natAbs) d.natAbs : Nat) : Int)) ∣ d := Int.ofNat_dvd_left.mpr (Nat.gcd_dvd_right _ _)
  unfold cdv
  split
  · exact ⟨Int.neg_dvd.mpr h1, Int.neg_dvd.mpr h2, Int.neg_dvd.mpr h3⟩
  · exact ⟨h1, h2, h3⟩
theorem fdiv_sz {n : Nat} {a c : Int} (h : Sz n a) (hd : c ∣ a) (hc : c ≠ 0) : Sz n (a.fdiv c) := by
  obtain ⟨k, rfl⟩ := hd
  rw [Int.mul_fdiv_cancel_left _ hc]
  have h1 : (c * k).natAbs < 2 ^ n := h
  rw [Int.natAbs_mul] at h1
  have : 1 ≤ c.natAbs := Int.natAbs_pos.mpr hc
  exact Nat.lt_of_le_of_lt (Nat.le_mul_of_pos_left _ this) h1
theorem cdv_sign {a b d : Int} (h : d ≠ 0) : (d < 0 ∧ cdv a b d < 0) ∨ (0 < d ∧ 0 < cdv a b d) := by
  have : 0 < Nat.gcd (Nat.gcd a.natAbs b.natAbs) d.natAbs := Nat.gcd_pos_of_pos_right _ (Int.natAbs_pos.mpr h)
  unfold cdv
  rcases Int.lt_or_gt_of_ne h with h | h
  · rw [if_pos h]; omega
  · rw [if_neg (by omega)]; omega
theorem fdiv_pos' {a b d : Int} (h : d ≠ 0) : 1 ≤ d.fdiv (cdv a b d) := by
  have hc := cdv_ne (a := a) (b := b) h
  have hs := cdv_sign (a := a) (b := b) h
  obtain ⟨k, e⟩ := (cdv_dvd a b d).2.2
  generalize cdv a b d = c at *
  subst e
  rw [Int.mul_fdiv_cancel_left _ hc]
  rcases hs with ⟨h1, h2⟩ | ⟨h1, h2⟩
  · rcases Int.lt_or_le 0 k with hk | hk
    · exact hk
    · have := Int.mul_nonneg_of_nonpos_of_nonpos (Int.le_of_lt h2) hk
      omega
  · rcases Int.lt_or_le 0 k with hk | hk
    · exact hk
    · have := Int.mul_nonpos_of_nonneg_of_nonpos (Int.le_of_lt h2) hk
      omega
/-- a number below 2^n -/
def Num (n : Nat) (a b d : Int) : Prop := Sz n a ∧ Sz n b ∧ Sz n d ∧ 1 ≤ d
theorem red_num {n : Nat} {a b d : Int} (ha : Sz n a) (hb : Sz n b) (hd : Sz n d) (h : d ≠ 0) : ∃ x y z, red a b d = tri x y z ∧ Num n x y z := by
  obtain ⟨d1, d2, d3⟩ := cdv_dvd a b d
  exact ⟨_, _, _, rfl, fdiv_sz ha d1 (cdv_ne h), fdiv_sz hb d2 (cdv_ne h), fdiv_sz hd d3 (cdv_ne h), fdiv_pos' h⟩
theorem cdv_sz {n : Nat} {a b d : Int} (hd : Sz n d) (h : d ≠ 0) : Sz n (cdv a b d) := by
  obtain ⟨k, e⟩ := (cdv_dvd a b d).2.2
  have hk : k ≠ 0 := fun z => h (by rw [e, z, Int.mul_zero])
  have h1 : d.natAbs < 2 ^ n := hd
  have h2 : d.natAbs = (cdv a b d).natAbs * k.natAbs := by
    conv => lhs; rw [e]
    exact Int.natAbs_mul _ _
  rw [h2] at h1
  exact Nat.lt_of_le_of_lt (Nat.le_mul_of_pos_right _ (Int.natAbs_pos.mpr hk)) h1
/-- Euclid -/
theorem gcd_step {x y : Int} (hx : 0 ≤ x) (hy : 0 < y) : Nat.gcd y.natAbs (x % y).natAbs = Nat.gcd x.natAbs y.natAbs := by
  have e : (x % y).natAbs = x.natAbs % y.natAbs := by
    rw [Int.natAbs_emod_of_nonneg hx]
  rw [e, Nat.gcd_comm y.natAbs, ← Nat.gcd_rec, Nat.gcd_comm]
/-- the norm is zero for zero alone -/
theorem norm_ne {c e : Int} (h : ¬ (c = 0 ∧ e = 0)) : c * c + c * e - e * e ≠ 0 := fun z => by
  have h5 : (2 * c + e) * (2 * c + e) = 5 * e * e := by
    have : (2 * c + e) * (2 * c + e) = 4 * (c * c + c * e - e * e) + 5 * e * e := by
      simp only [Int.mul_add, Int.add_mul, Int.mul_sub, Int.mul_assoc, Int.mul_left_comm _ 2, Int.mul_comm e c]
      omega
    omega
  by_cases he : e = 0
  · subst he
    have : c * c = 0 := by simpa using z
    rcases Int.mul_eq_zero.mp this with h1 | h1 <;> exact h ⟨h1, rfl⟩
  · exact no_tie he h5
theorem Num.up {n m : Nat} {a b d : Int} (h : Num n a b d) (e : n ≤ m) : Num m a b d := ⟨h.1.mono e, h.2.1.mono e, h.2.2.1.mono e, h.2.2.2⟩
theorem Num.ok {n m : Nat} {a b d c e f : Int} (h : Num n a b d) (k : Num m c e f) (l : n + m ≤ 400000) : MulOk a f ∧ MulOk c d ∧ MulOk b f ∧ MulOk e d ∧ MulOk d f ∧ MulOk a c ∧ MulOk b e ∧ MulOk a e ∧ MulOk b c :=
  ⟨h.1.ok k.2.2.1 (by omega), k.1.ok h.2.2.1 (by omega), h.2.1.ok k.2.2.1 (by omega), k.2.1.ok h.2.2.1 (by omega), h.2.2.1.ok k.2.2.1 (by omega), h.1.ok k.1 (by omega), h.2.1.ok k.2.1 (by omega), h.1.ok k.2.1 (by omega), h.2.1.ok k.1 (by omega)⟩
theorem add_sz {n m : Nat} {a b d c e f : Int} (h : Num n a b d) (k : Num m c e f) : Sz (n + m + 1) (a * f + c * d) ∧ Sz (n + m + 1) (b * f + e * d) ∧ Sz (n + m + 1) (d * f) ∧ 1 ≤ d * f :=
  ⟨(h.1.mul k.2.2.1).add ((k.1.mul h.2.2.1).mono (by omega)), (h.2.1.mul k.2.2.1).add ((k.2.1.mul h.2.2.1).mono (by omega)), (h.2.2.1.mul k.2.2.1).mono (by omega), Int.mul_pos h.2.2.2 k.2.2.2⟩
theorem mul_sz {n m : Nat} {a b d c e f : Int} (h : Num n a b d) (k : Num m c e f) : Sz (n + m + 2) (a * c + b * e) ∧ Sz (n + m + 2) (a * e + b * c + b * e) ∧ Sz (n + m + 2) (d * f) ∧ 1 ≤ d * f :=
  ⟨((h.1.mul k.1).add (h.2.1.mul k.2.1)).mono (by omega), ((h.1.mul k.2.1).add (h.2.1.mul k.1)).add ((h.2.1.mul k.2.1).mono (by omega)), (h.2.2.1.mul k.2.2.1).mono (by omega), Int.mul_pos h.2.2.2 k.2.2.2⟩
theorem Num.neg {n : Nat} {a b d : Int} (h : Num n a b d) : Num n (-a) (-b) d := ⟨h.1.neg, h.2.1.neg, h.2.2⟩
theorem con_sz {n : Nat} {a b d : Int} (h : Num n a b d) : Sz (n + 1) (a + b) ∧ Sz (n + 1) (-b) ∧ Sz (n + 1) d := ⟨h.1.add h.2.1, h.2.1.neg.mono (by omega), h.2.2.1.mono (by omega)⟩
theorem Num.one {n : Nat} {a b d : Int} (h : Num n a b d) : Num n a b 1 := ⟨h.1, h.2.1, by
  have h1 : d.natAbs < 2 ^ n := h.2.2.1
  have h2 := h.2.2.2
  show (1 : Int).natAbs < 2 ^ n
  have : (1 : Int).natAbs = 1 := rfl
  omega, by decide⟩
theorem quo_sz {n m : Nat} {a b d c e f : Int} (h : Num n a b d) (k : Num m c e f) : Sz (n + m + 2) (a * (c + e) - b * e) ∧ Sz (n + m + 2) (b * c - a * e) ∧ Sz (m + m + 2) (c * c + c * e - e * e) ∧ Sz (m + 1) (c + e) :=
  ⟨((h.1.mul (k.1.add k.2.1)).sub ((h.2.1.mul k.2.1).mono (by omega))).mono (by omega), ((h.2.1.mul k.1).sub (h.1.mul k.2.1)).mono (by omega), ((k.1.mul k.1).add (k.1.mul k.2.1)).sub ((k.2.1.mul k.2.1).mono (by omega)), k.1.add k.2.1⟩
/-- the sign of a + b g -/
def psg (a b : Int) : Int :=
  if 0 ≤ 2 * a + b ∧ 0 ≤ b then (if 0 < 2 * a + b ∨ 0 < b then 1 else 0)
  else if 2 * a + b ≤ 0 ∧ b ≤ 0 then -1
  else if 0 < 2 * a + b then (if 5 * b * b < (2 * a + b) * (2 * a + b) then 1 else -1)
  else if 5 * b * b < (2 * a + b) * (2 * a + b) then -1 else 1
theorem psg_neg (a b : Int) : psg (-a) (-b) = -psg a b := by
  have e : 2 * -a + -b = -(2 * a + b) := by omega
  have e2 : 5 * -b * -b = 5 * b * b := by rw [Int.mul_neg, Int.mul_neg, Int.neg_mul, Int.neg_neg]
  unfold psg
  rw [e, e2, Int.neg_mul_neg]
  generalize 2 * a + b = x
  by_cases h : 5 * b * b < x * x
  · rw [if_pos h, if_pos h]
    repeat' split
    all_goals first | rfl | omega
  · rw [if_neg h, if_neg h]
    repeat' split
    all_goals first | rfl | omega
def flr (a b m : Int) : Int := if 0 ≤ b then (2 * a + b + ((Float64.isqrt (5 * b * b).toNat : Nat) : Int)) / (2 * m) else (2 * a + b - ((Float64.isqrt (5 * b * b).toNat : Nat) : Int) - 1) / (2 * m)
theorem sq_lt {x y : Int} (h0 : 0 ≤ x) (h : x < y) : x * x < y * y := Int.mul_lt_mul' (Int.le_of_lt h) h h0 (by omega)
theorem sq_le {x y : Int} (h0 : 0 ≤ x) (h : x ≤ y) : x * x ≤ y * y := Int.mul_le_mul h h h0 (by omega)
theorem root5 (b : Int) : ∃ r : Int, ((Float64.isqrt (5 * b * b).toNat : Nat) : Int) = r ∧ 0 ≤ r ∧ r * r ≤ 5 * b * b ∧ 5 * b * b < (r + 1) * (r + 1) := by
  have hn : 0 ≤ 5 * b * b := by
    rw [Int.mul_assoc]
    exact Int.mul_nonneg (by decide) (by
      rcases Int.le_total 0 b with h | h
      · exact Int.mul_nonneg h h
      · exact Int.mul_nonneg_of_nonpos_of_nonpos h h)
  obtain ⟨n, hn2⟩ := Int.eq_ofNat_of_zero_le hn
  obtain ⟨h1, h2⟩ := Float64.isqrt_spec n
  rw [hn2]
  refine ⟨_, rfl, Int.natCast_nonneg _, ?_, ?_⟩
  · rw [Int.toNat_natCast]
    exact_mod_cast h1
  · rw [Int.toNat_natCast]
    exact_mod_cast h2
theorem flr_ok {a b m : Int} (hm : 1 ≤ m) : 0 ≤ psg (a - flr a b m * m) b ∧ psg (a - (flr a b m + 1) * m) b < 0 := by
  obtain ⟨r, er, r0, r1, r2⟩ := root5 b
  unfold flr
  rw [er]
  have key : ∀ k : Int, 2 * (a - k * m) + b = (2 * a + b) - k * (2 * m) := fun k => by
    have : k * (2 * m) = 2 * (k * m) := by rw [Int.mul_left_comm]
    omega
  unfold psg
  rw [key, key]
  have hM : 0 < 2 * m := by omega
  by_cases hb : 0 ≤ b
  · rw [if_pos hb]
    generalize hx : 2 * a + b = x
    have q1 := Int.ediv_mul_le (x + r) (Int.ne_of_gt hM)
    have q2 := Int.lt_ediv_add_one_mul_self (x + r) hM
    generalize (x + r) / (2 * m) * (2 * m) = u at q1 ⊢
    generalize ((x + r) / (2 * m) + 1) * (2 * m) = v at q2 ⊢
    constructor
    · by_cases c : 0 ≤ x - u
      · rw [if_pos ⟨c, hb⟩]
        split <;> decide
      · have c2 : ¬ 5 * b * b < (x - u) * (x - u) := by
          have := sq_le (x := u - x) (y := r) (by omega) (by omega)
          have e : (u - x) * (u - x) = (x - u) * (x - u) := by rw [← Int.neg_mul_neg]; congr 1 <;> omega
          omega
        rw [if_neg (fun z => c z.1)]
        by_cases c3 : b ≤ 0
        · have hb0 : b = 0 := by omega
          subst hb0
          have r00 : r = 0 := by
            rcases Int.lt_or_le 0 r with h | h
            · have := Int.mul_pos h h
              simp at r1
              omega
            · omega
          omega
        · rw [if_neg (fun z => c3 z.2), if_neg (by omega), if_neg c2]
          decide
    · have c : ¬ 0 ≤ x - v := by omega
      rw [if_neg (fun z => c z.1)]
      by_cases c3 : b ≤ 0
      · rw [if_pos ⟨by omega, c3⟩]
        decide
      · have c2 : 5 * b * b < (x - v) * (x - v) := by
          have := sq_le (x := r + 1) (y := v - x) (by omega) (by omega)
          have e : (v - x) * (v - x) = (x - v) * (x - v) := by rw [← Int.neg_mul_neg]; congr 1 <;> omega
          omega
        rw [if_neg (fun z => c3 z.2), if_neg (by omega), if_pos c2]
        decide
  · rw [if_neg hb]
    generalize hx : 2 * a + b = x
    have q1 := Int.ediv_mul_le (x - r - 1) (Int.ne_of_gt hM)
    have q2 := Int.lt_ediv_add_one_mul_self (x - r - 1) hM
    generalize (x - r - 1) / (2 * m) * (2 * m) = u at q1 ⊢
    generalize ((x - r - 1) / (2 * m) + 1) * (2 * m) = v at q2 ⊢
    constructor
    · rw [if_neg (fun z => hb z.2), if_neg (by omega), if_pos (by omega)]
      have := sq_le (x := r + 1) (y := x - u) (by omega) (by omega)
      rw [if_pos (by omega)]
      decide
    · rw [if_neg (fun z => hb z.2)]
      by_cases c : x - v ≤ 0
      · rw [if_pos ⟨c, by omega⟩]
        decide
      · have := sq_le (x := x - v) (y := r) (by omega) (by omega)
        rw [if_neg (fun z => c z.1), if_pos (by omega), if_neg (by omega)]
        decide
theorem pair_sz {a b : Int} (ha : Sz 200000 a) (hb : Sz 200000 b) : MulOk 2 a ∧ MulOk (2 * a + b) (2 * a + b) ∧ MulOk 5 b ∧ MulOk (5 * b) b := by
  have h2 : Sz 2 (2 : Int) := by decide
  have h5 : Sz 3 (5 : Int) := by decide
  have hx : Sz 200003 (2 * a + b) := ((h2.mul ha).mono (by decide : 2 + 200000 ≤ 200002)).add (hb.mono (by decide))
  exact ⟨h2.ok ha (by decide), hx.ok hx (by decide), h5.ok hb (by decide), (h5.mul hb).ok hb (by decide)⟩
theorem flr_sz {a b m : Int} (h : Num 6000 a b m) : MulOk 2 a ∧ MulOk 2 m ∧ MulOk 5 b ∧ MulOk (5 * b) b ∧ 0 ≤ 5 * b * b ∧ (5 * b * b).toNat.log2 < 13000 ∧ 0 < m ∧ (2 * m).natAbs.log2 < 9000 := by
  obtain ⟨h1, h2, h3, h4⟩ := h
  have e2 : Sz 2 (2 : Int) := by decide
  have e5 : Sz 3 (5 : Int) := by decide
  have hs := (e5.mul h2).mul h2
  obtain ⟨r, _, r0, r1, _⟩ := root5 b
  have r2 : 0 ≤ r * r := Int.mul_nonneg r0 r0
  have hp : 0 ≤ 5 * b * b := Int.le_trans r2 r1
  have hl := hs.log
  have ht : (5 * b * b).toNat = (5 * b * b).natAbs := by omega
  rw [ht]
  have hm := (e2.mul h3).log
  exact ⟨e2.ok h1 (by decide), e2.ok h3 (by decide), e5.ok h2 (by decide), (e5.mul h2).ok h2 (by decide), hp, by omega, by omega, by omega⟩
def wholeB (a b m : Int) : Bool := if a % m = 0 then decide (b % m = 0) else false
mutual
theorem pl_plain : ∀ (n : Nat) (d : D), pl n d = true → (toPy d).plain = true
  | _, .non, _ => rfl
  | _, .bl _, _ => rfl
  | _, .int _, _ => rfl
  | _, .str _, _ => rfl
  | 0, .tup _, p => by simp [pl] at p
  | 0, .lst _, p => by simp [pl] at p
  | n + 1, .tup xs, p => by
    simp only [pl] at p
    simp only [toPy, PyData.plain]
    exact pls_plain n xs p
  | n + 1, .lst xs, p => by
    simp only [pl] at p
    simp only [toPy, PyData.plain]
    exact pls_plain n xs p
  | _, .dic _, p => by simp [pl] at p
  | _, .obj _ _, p => by simp [pl] at p
  | _, .opq _, p => by simp [pl] at p
theorem pls_plain : ∀ (n : Nat) (d : List D), pls n d = true → PyData.plainAll (toPys d) = true
  | _, [], _ => rfl
  | n, x :: xs, p => by
    simp only [pls, Bool.and_eq_true] at p
    simp only [toPys, PyData.plainAll, Bool.and_eq_true]
    exact ⟨pl_plain n x p.1, pls_plain n xs p.2⟩
end
theorem eqb_refl {n : Nat} {x : D} (h : pl n x = true) : eqb x x = true := PySem.SeqAt.eqv_refl_plain _ (pl_plain n x h)
theorem eqD_refl {x : D} {Q : D → Prop} (h : pl 64 x = true) (q : Q (.bl true)) : eqD x x Q := by
  cases x with
  | str a => simpa [eqD] using q
  | _ => exact ⟨h, h, by rw [eqb_refl h]; exact q⟩
theorem red_prop {a b d : Int} (h : d ≠ 0) : ∃ p q r, red a b d = tri p q r ∧ 1 ≤ r ∧ p * d = a * r ∧ q * d = b * r := by
  obtain ⟨d1, d2, d3⟩ := cdv_dvd a b d
  have hc := cdv_ne (a := a) (b := b) h
  refine ⟨_, _, _, rfl, fdiv_pos' h, ?_, ?_⟩
  · obtain ⟨x, e1⟩ := d1
    obtain ⟨z, e3⟩ := d3
    have f1 : a.fdiv (cdv a b d) = x := by conv => lhs; lhs; rw [e1]
                                           exact Int.mul_fdiv_cancel_left _ hc
    have f3 : d.fdiv (cdv a b d) = z := by conv => lhs; lhs; rw [e3]
                                           exact Int.mul_fdiv_cancel_left _ hc
    rw [f1, f3]
    generalize cdv a b d = c at *
    rw [e1, e3, Int.mul_assoc, Int.mul_left_comm]
  · obtain ⟨x, e1⟩ := d2
    obtain ⟨z, e3⟩ := d3
    have f1 : b.fdiv (cdv a b d) = x := by conv => lhs; lhs; rw [e1]
                                           exact Int.mul_fdiv_cancel_left _ hc
    have f3 : d.fdiv (cdv a b d) = z := by conv => lhs; lhs; rw [e3]
                                           exact Int.mul_fdiv_cancel_left _ hc
    rw [f1, f3]
    generalize cdv a b d = c at *
    rw [e1, e3, Int.mul_assoc, Int.mul_left_comm]
def isNum : D → Bool
  | .tup [a, b, c] => isI a && isI b && isI c && decide (1 ≤ nOf c)
  | _ => false
theorem num_len {xs : List D} (h : ¬ xs.length = 3) : isNum (.tup xs) = false := by
  match xs, h with
  | [], _ => rfl
  | [_], _ => rfl
  | [_, _], _ => rfl
  | [_, _, _], h => exact absurd rfl h
  | _ :: _ :: _ :: _ :: _, _ => rfl
theorem num_n {x : D} (h : isNum x = true) : ∃ a b c, x = tri a b c ∧ 1 ≤ c := by
  cases x with
  | tup xs =>
    by_cases hl : xs.length = 3
    · obtain ⟨a, b, c, rfl⟩ := len3 hl
      simp only [isNum, Bool.and_eq_true, decide_eq_true_eq] at h
      obtain ⟨⟨⟨h1, h2⟩, h3⟩, h4⟩ := h
      obtain ⟨i, rfl⟩ := isI_n h1
      obtain ⟨j, rfl⟩ := isI_n h2
      obtain ⟨k, rfl⟩ := isI_n h3
      exact ⟨i, j, k, rfl, h4⟩
    · rw [num_len hl] at h
      cases h
  | _ => cases h
theorem num_tri {a b c : Int} (h : 1 ≤ c) : isNum (tri a b c) = true := by
  show (true && true && true && decide (1 ≤ c)) = true
  simp [h]
/-- typed, and its parts are -/
def Ty1 (known : Str → Bool) (x : D) : Prop := tyX known x = true ∧ ∀ xs, x = .tup xs → ∀ y ∈ xs, tyX known y = true
theorem ty1_rp {known : Str → Bool} {x : D} (h : rp 64 x = true) : Ty1 known x := ⟨tyX_ty (rp_ty h), fun xs e y m => by
  subst e
  exact tyX_ty (rp_tup h y m)⟩
theorem ty1_tri {known : Str → Bool} (a b c : Int) : Ty1 known (tri a b c) := ⟨rfl, fun xs e y m => by
  cases e
  simp only [List.mem_cons, List.not_mem_nil, or_false] at m
  rcases m with rfl | rfl | rfl <;> rfl⟩
theorem ty1_obj {known : Str → Bool} {n : Str} {fs : List (Str × D)} (h : known n = true) : Ty1 known (.obj n fs) := ⟨h, fun _ e => by cases e⟩
end ND

/-! ND36: evaluation, more of it (first written for k11, k10) -/
namespace ND
open PySem PySem.Spec L2
abbrev Pt (x : D) : Prop := Pok 8 300 210000 x
theorem Pt.rokT {x : D} (h : Pt x) (nd : isDct (toPy x) = false) : Rok x := h.rok (by decide) (by decide) (by decide) nd
theorem c60 : (2 : Nat) ^ 240 ≤ 10 ^ 4300 := by decide +kernel
theorem c400 : (2 : Nat) ^ 400 ≤ 10 ^ 4300 := by decide +kernel
theorem ret_ev {σ : List SV} {f : GE} {x : D} {E : Ed} (h : Ev σ f x) (q : E.rt x) : gRet f E σ := h.run _ q
section
variable {σ xs : List SV} {f g : GE} {x y : D} {s t : GS} {E : Ed}
theorem seq_par2E {i j : Nat} (a : Ev σ f x) (b : Ev σ g y) (q : s E (setAll [i, j] [x, y] σ)) : gSeq (gPar [i, j] (ND.gCons f (ND.gCons g ND.gNil))) s E σ := a.run _ (b.run _ ⟨rfl, q⟩)
theorem seq_okF {k : Nat} (e : fz k σ = xs) (a : Ev xs f (.bl true)) (q : t E xs) : gSeq (gFz k (gIfS (gNotT (gTru f)) s gSkip)) t E σ := by
  subst e
  exact a.run _ (by simpa using q)
theorem Ev.ifb {b : Bool} {h : GE} (a : Ev σ f (.bl b)) (k1 : b = true → Ev σ g x) (k2 : b = false → Ev σ h x) : Ev σ (gIf (gTru f) g h) x := ⟨fun Q q => a.run _ (by
  cases b
  · simpa using (k2 rfl).run _ q
  · simpa using (k1 rfl).run _ q)⟩
theorem Ev.andb {b : Bool} (a : Ev σ f (.bl b)) (k1 : b = true → Ev σ g x) (k2 : b = false → x = .bl false) : Ev σ (gAnd f g) x := ⟨fun Q q => a.run _ (by
  cases b
  · have := k2 rfl
    subst this
    simpa using q
  · simpa using (k1 rfl).run _ q)⟩
end
section
variable {σ : List SV} {f g : GE} {x : D} {i j : Int} {known : Str → Bool}
theorem Ev.isx {T : String} {b : Bool} (h : Ev σ f x) (hk : knownT T = true) (hs : tyX known x = true) (hb : isiB T x = b) : Ev σ (gBlt (isiX known) (ND.gCons f (ND.gCons (gC (.opq (.ty T))) ND.gNil))) (.bl b) := ⟨fun Q q => h.run _ ⟨hk, hs, by rw [hb]; exact q⟩⟩
theorem Ev.mulI (h : Ev σ f (.int i)) (k : Ev σ g (.int j)) (o : MulOk i j) : Ev σ (gBin mulD f g) (.int (i * j)) := ⟨fun Q q => h.run _ (k.run _ ⟨o, q⟩)⟩
theorem Ev.abs (h : Ev σ f (.int i)) : Ev σ (gBlt absD (ND.gCons f ND.gNil)) (.int (if i < 0 then -i else i)) := ⟨fun Q q => h.run _ (by simpa [absD] using q)⟩
end
structure EvL (σ : List SV) (f : GA) (P : List D → Prop) : Prop where
  run : ∀ Q : List D → Prop, (∀ x, P x → Q x) → f σ Q
section
variable {σ : List SV} {f g h : GE} {fs fi : GA} {s s' t : GS} {E : Ed} {P P' P2 : D → Prop}
theorem seq_setT3 {i j k : Nat} (a : EvP σ f P) (b : EvP σ g P') (c : EvP σ h P2) (q : ∀ x y z, P x → P' y → P2 z → s E (setAll [i, j, k] [x, y, z] σ)) : gSeq (gSetT [i, j, k] (ND.gTup (ND.gCons f (ND.gCons g (ND.gCons h ND.gNil))))) s E σ :=
  a.run _ fun x hx => b.run _ fun y hy => c.run _ fun z hz => ⟨by simp, [x, y, z], rfl, rfl, q x y z hx hy hz⟩
theorem seq_setLP {k : Nat} {P : List D → Prop} (a : EvL σ fs P) (q : ∀ xs, P xs → s E (σ.set k (.ol xs))) : gSeq (gSetL k fs) s E σ := a.run _ q
theorem seq_setP {k : Nat} (a : EvP σ f P) (q : ∀ x, P x → s E (σ.set k (.d x))) : gSeq (gSet k f) s E σ := a.run _ q
theorem seq_ifP (a : EvP σ f fun x => ∃ b, x = .bl b) (q1 : gSeq s t E σ) (q2 : gSeq s' t E σ) : gSeq (gIfS (gB f) s s') t E σ := a.run _ fun x ⟨b, e⟩ => by
  subst e
  refine ⟨b, rfl, ?_⟩
  cases b
  · exact q2
  · exact q1
theorem seq_ifI {P : List SV → Prop} (h : EvP σ f fun x => ∃ b, x = .bl b) (rest : ∀ σ', P σ' → t E σ') (q1 : (∀ σ', P σ' → t E σ') → gSeq s t E σ) (q2 : (∀ σ', P σ' → t E σ') → gSeq s' t E σ) : gSeq (gIfS (gB f) s s') t E σ := seq_ifP h (q1 rest) (q2 rest)
theorem seq_setI {k j : Nat} {i : Int} {x : D} {xs : List D} (hk : σ[k]? = some (.ol xs)) (a : Ev σ f x) (b : Ev σ g (.int i)) (hj : ixN xs.length i = some j) (q : t E (σ.set k (.ol (xs.set j x)))) : gSeq (gSetI k f g) t E σ := ⟨xs, hk, a.run _ (b.run _ ⟨i, j, rfl, hj, q⟩)⟩
theorem Ev.varBl {n : Nat} {xs : List D} (h : σ[n]? = some (.ol xs)) : Ev σ (gVarB n) (.lst xs) := ⟨fun Q q => by
  unfold gVarB
  rw [h]
  exact q⟩
theorem Ev.varBd {n : Nat} {x : D} (h : σ[n]? = some (.d x)) : Ev σ (gVarB n) x := ⟨fun Q q => by
  unfold gVarB
  rw [h]
  exact q⟩
theorem Ev.ixl {xs : List D} {i : Int} {x : D} (a : Ev σ f (.lst xs)) (b : Ev σ g (.int i)) (h : atI xs i = some x) : Ev σ (gBin ixD f g) x := ⟨fun Q q => a.run _ (b.run _ ⟨x, h, q⟩)⟩
theorem Ev.ixt {xs : List D} {i : Int} {x : D} (a : Ev σ f (.tup xs)) (b : Ev σ g (.int i)) (h : atI xs i = some x) : Ev σ (gBin ixD f g) x := ⟨fun Q q => a.run _ (b.run _ ⟨x, h, q⟩)⟩
theorem seq_two (a : Ev σ f (.bl true)) (b : Ev σ g (.bl true)) (q : t E σ) : gSeq (gIfS (gOrT (gNotT (gTru f)) (gNotT (gTru g))) s gSkip) t E σ := by
  refine a.run _ ?_
  simp
  refine b.run _ ?_
  simpa using q
theorem if_two (a : Ev σ f (.bl true)) (b : Ev σ g (.bl true)) (q : E.nx σ) : gIfS (gOrT (gNotT (gTru f)) (gNotT (gTru g))) s gSkip E σ := by
  refine a.run _ ?_
  simp
  refine b.run _ ?_
  simpa using q
end
/-- many a small value of ints -/
theorem int_tup' {k : Nat} {ys : List D} (h : ∀ y ∈ ys, ∃ i, y = .int i ∧ Sz k i) : Pok 1 k (4303 * ys.length + 3) (.tup ys) ∧ Pok 1 k (4303 * ys.length + 3) (.lst ys) := by
  have : rps 0 ys = true ∧ sms (2 ^ k) ys = true ∧ rszs ys = 4303 * ys.length := by
    induction ys with
    | nil => simp [rps, sms, rszs]
    | cons y ys ih =>
      obtain ⟨i, rfl, hi⟩ := h y List.mem_cons_self
      obtain ⟨h1, h2, h3⟩ := ih fun z m => h z (List.mem_cons_of_mem _ m)
      refine ⟨by simp [rps, rp, h1], ?_, by simp [rszs, rsz, h3]; omega⟩
      simp only [sms, Bool.and_eq_true]
      exact ⟨hi.sm, h2⟩
  obtain ⟨h1, h2, h3⟩ := this
  exact ⟨h3 ▸ pok_tup h1 h2, h3 ▸ pok_lst h1 h2⟩
end ND
namespace K10
open PySem PySem.Spec L2 ND
open PyProof.Rows (envOfC)
def top (i : Nat) : Stmt := PySem.Challenge.pw_nevertwice_k10_any_value_as_a_golden_num.main.body.getD i (.Pass ⟨0, 0, 0, 0⟩)
def methS (i j : Nat) : Stmt := match top i with
  | .ClassDef _ _ _ b _ _ _ _ _ _ _ => b.getD j (.Pass ⟨0, 0, 0, 0⟩)
  | s => s
def knownO (n : Str) : Bool := n == "Floor"
def fldO (n f : Str) : Bool := (n == "Floor" && f == "all_keys") || (n == "Floor" && f == "side")
@[simp] theorem knownO_Floor : knownO "Floor" = true := by decide +kernel
@[simp] theorem fldO_Floor_all_keys : fldO "Floor" "all_keys" = true := by decide +kernel
@[simp] theorem fldO_Floor_side : fldO "Floor" "side" = true := by decide +kernel
@[simp] theorem fn_Floor_all_keys_all_keys : ((Str.ofString "all_keys") == (Str.ofString "all_keys")) = true := by decide +kernel
@[simp] theorem fn_Floor_all_keys_side : ((Str.ofString "all_keys") == (Str.ofString "side")) = false := by decide +kernel
@[simp] theorem fn_Floor_side_all_keys : ((Str.ofString "side") == (Str.ofString "all_keys")) = false := by decide +kernel
@[simp] theorem fn_Floor_side_side : ((Str.ofString "side") == (Str.ofString "side")) = true := by decide +kernel
theorem sc_is_integer : FnScope ["thing"] ["thing"] (defScope (top 11)) := ⟨rfl, rfl, rfl, by decide +kernel, rfl, by decide +kernel, by decide +kernel⟩
theorem bp_is_integer : BindsP "is_integer" (top 11) ["thing"] := fun _ _ _ _ _ _ us hl => match us, hl with | [_], _ => rfl
theorem sc_is_number : FnScope ["thing"] ["thing"] (defScope (top 12)) := ⟨rfl, rfl, rfl, by decide +kernel, rfl, by decide +kernel, by decide +kernel⟩
theorem bp_is_number : BindsP "is_number" (top 12) ["thing"] := fun _ _ _ _ _ _ us hl => match us, hl with | [_], _ => rfl
theorem sc_normal : FnScope ["a", "b", "d", "divisor"] ["a", "b", "d"] (defScope (top 13)) := ⟨rfl, rfl, rfl, by decide +kernel, rfl, by decide +kernel, by decide +kernel⟩
theorem bp_normal : BindsP "normal" (top 13) ["a", "b", "d"] := fun _ _ _ _ _ _ us hl => match us, hl with | [_, _, _], _ => rfl
theorem sc_pair_sign : FnScope ["a", "b", "x", "is_x_greater"] ["a", "b"] (defScope (top 14)) := ⟨rfl, rfl, rfl, by decide +kernel, rfl, by decide +kernel, by decide +kernel⟩
theorem bp_pair_sign : BindsP "pair_sign" (top 14) ["a", "b"] := fun _ _ _ _ _ _ us hl => match us, hl with | [_, _], _ => rfl
theorem sc_sign_of : FnScope ["one"] ["one"] (defScope (top 15)) := ⟨rfl, rfl, rfl, by decide +kernel, rfl, by decide +kernel, by decide +kernel⟩
theorem bp_sign_of : BindsP "sign_of" (top 15) ["one"] := fun _ _ _ _ _ _ us hl => match us, hl with | [_], _ => rfl
theorem sc_compared : FnScope ["one", "other"] ["one", "other"] (defScope (top 16)) := ⟨rfl, rfl, rfl, by decide +kernel, rfl, by decide +kernel, by decide +kernel⟩
theorem bp_compared : BindsP "compared" (top 16) ["one", "other"] := fun _ _ _ _ _ _ us hl => match us, hl with | [_, _], _ => rfl
theorem sc_negative : FnScope ["one"] ["one"] (defScope (top 17)) := ⟨rfl, rfl, rfl, by decide +kernel, rfl, by decide +kernel, by decide +kernel⟩
theorem bp_negative : BindsP "negative" (top 17) ["one"] := fun _ _ _ _ _ _ us hl => match us, hl with | [_], _ => rfl
theorem sc_added : FnScope ["one", "other", "d"] ["one", "other"] (defScope (top 18)) := ⟨rfl, rfl, rfl, by decide +kernel, rfl, by decide +kernel, by decide +kernel⟩
theorem bp_added : BindsP "added" (top 18) ["one", "other"] := fun _ _ _ _ _ _ us hl => match us, hl with | [_, _], _ => rfl
theorem sc_taken : FnScope ["one", "other"] ["one", "other"] (defScope (top 19)) := ⟨rfl, rfl, rfl, by decide +kernel, rfl, by decide +kernel, by decide +kernel⟩
theorem bp_taken : BindsP "taken" (top 19) ["one", "other"] := fun _ _ _ _ _ _ us hl => match us, hl with | [_, _], _ => rfl
theorem sc_multiplied : FnScope ["one", "other", "a", "b", "c", "e"] ["one", "other"] (defScope (top 20)) := ⟨rfl, rfl, rfl, by decide +kernel, rfl, by decide +kernel, by decide +kernel⟩
theorem bp_multiplied : BindsP "multiplied" (top 20) ["one", "other"] := fun _ _ _ _ _ _ us hl => match us, hl with | [_, _], _ => rfl
theorem sc_times_g : FnScope ["one"] ["one"] (defScope (top 21)) := ⟨rfl, rfl, rfl, by decide +kernel, rfl, by decide +kernel, by decide +kernel⟩
theorem bp_times_g : BindsP "times_g" (top 21) ["one"] := fun _ _ _ _ _ _ us hl => match us, hl with | [_], _ => rfl
theorem sc_times_less : FnScope ["one"] ["one"] (defScope (top 22)) := ⟨rfl, rfl, rfl, by decide +kernel, rfl, by decide +kernel, by decide +kernel⟩
theorem bp_times_less : BindsP "times_less" (top 22) ["one"] := fun _ _ _ _ _ _ us hl => match us, hl with | [_], _ => rfl
theorem sc_divided : FnScope ["one", "other", "c", "e", "top", "norm"] ["one", "other"] (defScope (top 23)) := ⟨rfl, rfl, rfl, by decide +kernel, rfl, by decide +kernel, by decide +kernel⟩
theorem bp_divided : BindsP "divided" (top 23) ["one", "other"] := fun _ _ _ _ _ _ us hl => match us, hl with | [_, _], _ => rfl
theorem sc_is_whole_number : FnScope ["one"] ["one"] (defScope (top 24)) := ⟨rfl, rfl, rfl, by decide +kernel, rfl, by decide +kernel, by decide +kernel⟩
theorem bp_is_whole_number : BindsP "is_whole_number" (top 24) ["one"] := fun _ _ _ _ _ _ us hl => match us, hl with | [_], _ => rfl
theorem sc_floor_integer : FnScope ["one", "x", "b", "m", "root"] ["one"] (defScope (top 25)) := ⟨rfl, rfl, rfl, by decide +kernel, rfl, by decide +kernel, by decide +kernel⟩
theorem bp_floor_integer : BindsP "floor_integer" (top 25) ["one"] := fun _ _ _ _ _ _ us hl => match us, hl with | [_], _ => rfl
theorem sc_ceiling_integer : FnScope ["one"] ["one"] (defScope (top 26)) := ⟨rfl, rfl, rfl, by decide +kernel, rfl, by decide +kernel, by decide +kernel⟩
theorem bp_ceiling_integer : BindsP "ceiling_integer" (top 26) ["one"] := fun _ _ _ _ _ _ us hl => match us, hl with | [_], _ => rfl
theorem sc_need_numbers : FnScope ["things", "thing"] ["things"] (defScope (top 30)) := ⟨rfl, rfl, rfl, by decide +kernel, rfl, by decide +kernel, by decide +kernel⟩
theorem bp_need_numbers : BindsP "need_numbers" (top 30) ["things"] := fun _ _ _ _ _ _ us hl => match us, hl with | [_], _ => rfl
theorem sc_is_golden : FnScope ["thing"] ["thing"] (defScope (top 31)) := ⟨rfl, rfl, rfl, by decide +kernel, rfl, by decide +kernel, by decide +kernel⟩
theorem bp_is_golden : BindsP "is_golden" (top 31) ["thing"] := fun _ _ _ _ _ _ us hl => match us, hl with | [_], _ => rfl
theorem sc_reduced : FnScope ["number"] ["number"] (defScope (top 32)) := ⟨rfl, rfl, rfl, by decide +kernel, rfl, by decide +kernel, by decide +kernel⟩
theorem bp_reduced : BindsP "reduced" (top 32) ["number"] := fun _ _ _ _ _ _ us hl => match us, hl with | [_], _ => rfl
theorem sc_plus : FnScope ["one", "other"] ["one", "other"] (defScope (top 33)) := ⟨rfl, rfl, rfl, by decide +kernel, rfl, by decide +kernel, by decide +kernel⟩
theorem bp_plus : BindsP "plus" (top 33) ["one", "other"] := fun _ _ _ _ _ _ us hl => match us, hl with | [_, _], _ => rfl
theorem sc_minus : FnScope ["one", "other"] ["one", "other"] (defScope (top 34)) := ⟨rfl, rfl, rfl, by decide +kernel, rfl, by decide +kernel, by decide +kernel⟩
theorem bp_minus : BindsP "minus" (top 34) ["one", "other"] := fun _ _ _ _ _ _ us hl => match us, hl with | [_, _], _ => rfl
theorem sc_times : FnScope ["one", "other"] ["one", "other"] (defScope (top 35)) := ⟨rfl, rfl, rfl, by decide +kernel, rfl, by decide +kernel, by decide +kernel⟩
theorem bp_times : BindsP "times" (top 35) ["one", "other"] := fun _ _ _ _ _ _ us hl => match us, hl with | [_, _], _ => rfl
theorem sc_quotient : FnScope ["one", "other"] ["one", "other"] (defScope (top 36)) := ⟨rfl, rfl, rfl, by decide +kernel, rfl, by decide +kernel, by decide +kernel⟩
theorem bp_quotient : BindsP "quotient" (top 36) ["one", "other"] := fun _ _ _ _ _ _ us hl => match us, hl with | [_, _], _ => rfl
theorem sc_sign : FnScope ["number"] ["number"] (defScope (top 37)) := ⟨rfl, rfl, rfl, by decide +kernel, rfl, by decide +kernel, by decide +kernel⟩
theorem bp_sign : BindsP "sign" (top 37) ["number"] := fun _ _ _ _ _ _ us hl => match us, hl with | [_], _ => rfl
theorem sc_is_below : FnScope ["one", "other"] ["one", "other"] (defScope (top 38)) := ⟨rfl, rfl, rfl, by decide +kernel, rfl, by decide +kernel, by decide +kernel⟩
theorem bp_is_below : BindsP "is_below" (top 38) ["one", "other"] := fun _ _ _ _ _ _ us hl => match us, hl with | [_, _], _ => rfl
theorem sc_are_equal : FnScope ["one", "other"] ["one", "other"] (defScope (top 39)) := ⟨rfl, rfl, rfl, by decide +kernel, rfl, by decide +kernel, by decide +kernel⟩
theorem bp_are_equal : BindsP "are_equal" (top 39) ["one", "other"] := fun _ _ _ _ _ _ us hl => match us, hl with | [_, _], _ => rfl
theorem sc_integer_below : FnScope ["number"] ["number"] (defScope (top 40)) := ⟨rfl, rfl, rfl, by decide +kernel, rfl, by decide +kernel, by decide +kernel⟩
theorem bp_integer_below : BindsP "integer_below" (top 40) ["number"] := fun _ _ _ _ _ _ us hl => match us, hl with | [_], _ => rfl
theorem sc_integer_above : FnScope ["number"] ["number"] (defScope (top 41)) := ⟨rfl, rfl, rfl, by decide +kernel, rfl, by decide +kernel, by decide +kernel⟩
theorem bp_integer_above : BindsP "integer_above" (top 41) ["number"] := fun _ _ _ _ _ _ us hl => match us, hl with | [_], _ => rfl
theorem sc_is_whole : FnScope ["number"] ["number"] (defScope (top 42)) := ⟨rfl, rfl, rfl, by decide +kernel, rfl, by decide +kernel, by decide +kernel⟩
theorem bp_is_whole : BindsP "is_whole" (top 42) ["number"] := fun _ _ _ _ _ _ us hl => match us, hl with | [_], _ => rfl
theorem sc_conjugate : FnScope ["number"] ["number"] (defScope (top 43)) := ⟨rfl, rfl, rfl, by decide +kernel, rfl, by decide +kernel, by decide +kernel⟩
theorem bp_conjugate : BindsP "conjugate" (top 43) ["number"] := fun _ _ _ _ _ _ us hl => match us, hl with | [_], _ => rfl
theorem sc_power : FnScope ["n", "found", "_"] ["n"] (defScope (top 44)) := ⟨rfl, rfl, rfl, by decide +kernel, rfl, by decide +kernel, by decide +kernel⟩
theorem bp_power : BindsP "power" (top 44) ["n"] := fun _ _ _ _ _ _ us hl => match us, hl with | [_], _ => rfl
theorem sc_number_text : FnScope ["number", "a", "b", "d", "middle", "text"] ["number"] (defScope (top 45)) := ⟨rfl, rfl, rfl, by decide +kernel, rfl, by decide +kernel, by decide +kernel⟩
theorem bp_number_text : BindsP "number_text" (top 45) ["number"] := fun _ _ _ _ _ _ us hl => match us, hl with | [_], _ => rfl
theorem sc_keys_from : FnScope ["one", "other", "found", "r"] ["one", "other"] (defScope (top 52)) := ⟨rfl, rfl, rfl, by decide +kernel, rfl, by decide +kernel, by decide +kernel⟩
theorem bp_keys_from : BindsP "keys_from" (top 52) ["one", "other"] := fun _ _ _ _ _ _ us hl => match us, hl with | [_, _], _ => rfl
theorem sc_whole_directions : FnScope ["keys", "r"] ["keys"] (defScope (top 53)) := ⟨rfl, rfl, rfl, by decide +kernel, rfl, by decide +kernel, by decide +kernel⟩
theorem bp_whole_directions : BindsP "whole_directions" (top 53) ["keys"] := fun _ _ _ _ _ _ us hl => match us, hl with | [_], _ => rfl
theorem sc_sides_of : FnScope ["keys", "directions", "found", "turns", "r", "one", "j", "part"] ["keys"] (defScope (top 54)) := ⟨rfl, rfl, rfl, by decide +kernel, rfl, by decide +kernel, by decide +kernel⟩
theorem bp_sides_of : BindsP "sides_of" (top 54) ["keys"] := fun _ _ _ _ _ _ us hl => match us, hl with | [_], _ => rfl
theorem sc_is_side : FnScope ["keys", "thing", "part"] ["keys", "thing"] (defScope (top 55)) := ⟨rfl, rfl, rfl, by decide +kernel, rfl, by decide +kernel, by decide +kernel⟩
theorem bp_is_side : BindsP "is_side" (top 55) ["keys", "thing"] := fun _ _ _ _ _ _ us hl => match us, hl with | [_, _], _ => rfl
theorem sc_Floor : FnScope ["self", "one", "other", "side", "number", "keys"] ["self", "one", "other", "side"] (defScope (methS 56 0)) := ⟨rfl, rfl, rfl, by decide +kernel, rfl, by decide +kernel, by decide +kernel⟩
-- INIT Floor
theorem sc_Floor__eq : FnScope ["self", "other"] ["self", "other"] (defScope (methS 56 1)) := ⟨rfl, rfl, rfl, by decide +kernel, rfl, by decide +kernel, by decide +kernel⟩
-- EQ Floor__eq
theorem sc__law_deck : FnScope ["_law_script", "_law_mixed", "_law_cell"] ["_law_script"] (defScope (top 60)) := ⟨rfl, rfl, rfl, by decide +kernel, rfl, by decide +kernel, by decide +kernel⟩
theorem bp__law_deck : BindsP "_law_deck" (top 60) ["_law_script"] := fun _ _ _ _ _ _ us hl => match us, hl with | [_], _ => rfl
theorem sc__law_draw : FnScope ["_law_deck_here", "_law_many", "_law_figure", "_law_cell"] ["_law_deck_here", "_law_many"] (defScope (top 61)) := ⟨rfl, rfl, rfl, by decide +kernel, rfl, by decide +kernel, by decide +kernel⟩
theorem bp__law_draw : BindsP "_law_draw" (top 61) ["_law_deck_here", "_law_many"] := fun _ _ _ _ _ _ us hl => match us, hl with | [_, _], _ => rfl
theorem sc__law_pick : FnScope ["_law_deck_here", "_law_some"] ["_law_deck_here", "_law_some"] (defScope (top 62)) := ⟨rfl, rfl, rfl, by decide +kernel, rfl, by decide +kernel, by decide +kernel⟩
theorem bp__law_pick : BindsP "_law_pick" (top 62) ["_law_deck_here", "_law_some"] := fun _ _ _ _ _ _ us hl => match us, hl with | [_, _], _ => rfl
theorem sc__law_integer : FnScope ["_law_deck_here", "_law_pieces", "_law_way", "_law_facing", "_law_found", "_law_piece"] ["_law_deck_here", "_law_pieces"] (defScope (top 63)) := ⟨rfl, rfl, rfl, by decide +kernel, rfl, by decide +kernel, by decide +kernel⟩
theorem bp__law_integer : BindsP "_law_integer" (top 63) ["_law_deck_here", "_law_pieces"] := fun _ _ _ _ _ _ us hl => match us, hl with | [_, _], _ => rfl
theorem sc__law_same : FnScope ["_law_told", "_law_due"] ["_law_told", "_law_due"] (defScope (top 64)) := ⟨rfl, rfl, rfl, by decide +kernel, rfl, by decide +kernel, by decide +kernel⟩
theorem bp__law_same : BindsP "_law_same" (top 64) ["_law_told", "_law_due"] := fun _ _ _ _ _ _ us hl => match us, hl with | [_, _], _ => rfl
theorem sc__law_golden : FnScope ["_law_deck_here", "_law_way"] ["_law_deck_here"] (defScope (top 65)) := ⟨rfl, rfl, rfl, by decide +kernel, rfl, by decide +kernel, by decide +kernel⟩
theorem bp__law_golden : BindsP "_law_golden" (top 65) ["_law_deck_here"] := fun _ _ _ _ _ _ us hl => match us, hl with | [_], _ => rfl
theorem sc__law_odd : FnScope ["_law_deck_here", "_law_it", "_law_some"] ["_law_deck_here", "_law_it"] (defScope (top 66)) := ⟨rfl, rfl, rfl, by decide +kernel, rfl, by decide +kernel, by decide +kernel⟩
theorem bp__law_odd : BindsP "_law_odd" (top 66) ["_law_deck_here", "_law_it"] := fun _ _ _ _ _ _ us hl => match us, hl with | [_, _], _ => rfl
theorem sc__law_bent : FnScope ["_law_deck_here", "_law_it", "_law_at"] ["_law_deck_here", "_law_it"] (defScope (top 67)) := ⟨rfl, rfl, rfl, by decide +kernel, rfl, by decide +kernel, by decide +kernel⟩
theorem bp__law_bent : BindsP "_law_bent" (top 67) ["_law_deck_here", "_law_it"] := fun _ _ _ _ _ _ us hl => match us, hl with | [_, _], _ => rfl
theorem sc__law_is_golden : FnScope ["_law_thing", "_law_it"] ["_law_thing"] (defScope (top 68)) := ⟨rfl, rfl, rfl, by decide +kernel, rfl, by decide +kernel, by decide +kernel⟩
theorem bp__law_is_golden : BindsP "_law_is_golden" (top 68) ["_law_thing"] := fun _ _ _ _ _ _ us hl => match us, hl with | [_], _ => rfl
theorem sc__law_value : FnScope ["_law_deck_here", "_law_way", "_law_found"] ["_law_deck_here"] (defScope (top 69)) := ⟨rfl, rfl, rfl, by decide +kernel, rfl, by decide +kernel, by decide +kernel⟩
theorem bp__law_value : BindsP "_law_value" (top 69) ["_law_deck_here"] := fun _ _ _ _ _ _ us hl => match us, hl with | [_], _ => rfl
theorem sc__law_refused : FnScope ["_law_call", "e", "_law_is_other"] ["_law_call"] (defScope (top 70)) := ⟨rfl, rfl, rfl, by decide +kernel, rfl, by decide +kernel, by decide +kernel⟩
theorem bp__law_refused : BindsP "_law_refused" (top 70) ["_law_call"] := fun _ _ _ _ _ _ us hl => match us, hl with | [_], _ => rfl
theorem sc__law_two_right : FnScope ["_law_p", "_law_q", "_law_due", "_law_last", "_law_told", "_law_far"] ["_law_p", "_law_q"] (defScope (top 71)) := ⟨rfl, rfl, rfl, by decide +kernel, rfl, by decide +kernel, by decide +kernel⟩
theorem bp__law_two_right : BindsP "_law_two_right" (top 71) ["_law_p", "_law_q"] := fun _ _ _ _ _ _ us hl => match us, hl with | [_, _], _ => rfl
theorem sc__law_one_right : FnScope ["_law_p", "_law_due", "_law_told"] ["_law_p"] (defScope (top 72)) := ⟨rfl, rfl, rfl, by decide +kernel, rfl, by decide +kernel, by decide +kernel⟩
theorem bp__law_one_right : BindsP "_law_one_right" (top 72) ["_law_p"] := fun _ _ _ _ _ _ us hl => match us, hl with | [_], _ => rfl
theorem sc__law_is_floor_refused : FnScope ["_law_plane", "_law_told", "_law_it"] ["_law_plane"] (defScope (top 73)) := ⟨rfl, rfl, rfl, by decide +kernel, rfl, by decide +kernel, by decide +kernel⟩
theorem bp__law_is_floor_refused : BindsP "_law_is_floor_refused" (top 73) ["_law_plane"] := fun _ _ _ _ _ _ us hl => match us, hl with | [_], _ => rfl
theorem sc__law_is_great_right : FnScope ["_law_deck_here", "_law_number", "_law_great", "_law_turn", "_law_bad", "_law_near", "_law_far"] ["_law_deck_here"] (defScope (top 74)) := ⟨rfl, rfl, rfl, by decide +kernel, rfl, by decide +kernel, by decide +kernel⟩
theorem bp__law_is_great_right : BindsP "_law_is_great_right" (top 74) ["_law_deck_here"] := fun _ _ _ _ _ _ us hl => match us, hl with | [_], _ => rfl
theorem sc_law : FnScope ["_law_script", "_law_deck_here", "_law_turn", "_law_great", "_law_p", "_law_q", "_law_text"] ["_law_script"] (defScope (top 75)) := ⟨rfl, rfl, rfl, by decide +kernel, rfl, by decide +kernel, by decide +kernel⟩
theorem bp_law : BindsP "law" (top 75) ["_law_script"] := fun _ _ _ _ _ _ us hl => match us, hl with | [_], _ => rfl
theorem kb_plus_0 : BindsKw "plus" (top 33) ["one", "other"] ["other", "one"] 0 2 [1, 0] := fun _ _ _ _ _ _ us ws h1 h2 => match us, ws, h1, h2 with | [], [_, _], _, _ => rfl
theorem kb_minus_0 : BindsKw "minus" (top 34) ["one", "other"] ["other", "one"] 0 2 [1, 0] := fun _ _ _ _ _ _ us ws h1 h2 => match us, ws, h1, h2 with | [], [_, _], _, _ => rfl
theorem kb_times_0 : BindsKw "times" (top 35) ["one", "other"] ["other", "one"] 0 2 [1, 0] := fun _ _ _ _ _ _ us ws h1 h2 => match us, ws, h1, h2 with | [], [_, _], _, _ => rfl
theorem kb_is_below_0 : BindsKw "is_below" (top 38) ["one", "other"] ["other", "one"] 0 2 [1, 0] := fun _ _ _ _ _ _ us ws h1 h2 => match us, ws, h1, h2 with | [], [_, _], _, _ => rfl
theorem kb_are_equal_0 : BindsKw "are_equal" (top 39) ["one", "other"] ["other", "one"] 0 2 [1, 0] := fun _ _ _ _ _ _ us ws h1 h2 => match us, ws, h1, h2 with | [], [_, _], _, _ => rfl
theorem kb_quotient_0 : BindsKw "quotient" (top 36) ["one", "other"] ["other", "one"] 0 2 [1, 0] := fun _ _ _ _ _ _ us ws h1 h2 => match us, ws, h1, h2 with | [], [_, _], _, _ => rfl
theorem kb_reduced_0 : BindsKw "reduced" (top 32) ["number"] ["number"] 0 1 [0] := fun _ _ _ _ _ _ us ws h1 h2 => match us, ws, h1, h2 with | [], [_], _, _ => rfl
theorem kb_sign_0 : BindsKw "sign" (top 37) ["number"] ["number"] 0 1 [0] := fun _ _ _ _ _ _ us ws h1 h2 => match us, ws, h1, h2 with | [], [_], _, _ => rfl
theorem kb_integer_below_0 : BindsKw "integer_below" (top 40) ["number"] ["number"] 0 1 [0] := fun _ _ _ _ _ _ us ws h1 h2 => match us, ws, h1, h2 with | [], [_], _, _ => rfl
theorem kb_integer_above_0 : BindsKw "integer_above" (top 41) ["number"] ["number"] 0 1 [0] := fun _ _ _ _ _ _ us ws h1 h2 => match us, ws, h1, h2 with | [], [_], _, _ => rfl
theorem kb_is_whole_0 : BindsKw "is_whole" (top 42) ["number"] ["number"] 0 1 [0] := fun _ _ _ _ _ _ us ws h1 h2 => match us, ws, h1, h2 with | [], [_], _, _ => rfl
theorem kb_conjugate_0 : BindsKw "conjugate" (top 43) ["number"] ["number"] 0 1 [0] := fun _ _ _ _ _ _ us ws h1 h2 => match us, ws, h1, h2 with | [], [_], _, _ => rfl
theorem kb_number_text_0 : BindsKw "number_text" (top 45) ["number"] ["number"] 0 1 [0] := fun _ _ _ _ _ _ us ws h1 h2 => match us, ws, h1, h2 with | [], [_], _, _ => rfl
theorem kb_is_golden_0 : BindsKw "is_golden" (top 31) ["thing"] ["thing"] 0 1 [0] := fun _ _ _ _ _ _ us ws h1 h2 => match us, ws, h1, h2 with | [], [_], _, _ => rfl
theorem bm_Floor_0 : BindsM "Floor.__init__" (methS 56 0) ["one", "other", "side"] 2 1 [] [0, 1, 2] := fun _ _ _ _ _ _ _ us its ws h1 h2 h3 => match us, its, ws, h1, h2, h3 with | [_, _, _], [_], [], _, _, _ => ⟨_, rfl, rfl⟩
structure Bt (mg : Str → Option Value) : Prop where
  b_abs : mg "abs" = none
  b_all : mg "all" = none
  b_bool : mg "bool" = none
  b_int : mg "int" = none
  b_isinstance : mg "isinstance" = none
  b_len : mg "len" = none
  b_list : mg "list" = none
  b_max : mg "max" = none
  b_range : mg "range" = none
  b_repr : mg "repr" = none
  b_sorted : mg "sorted" = none
  b_str : mg "str" = none
  b_tuple : mg "tuple" = none
  f_gcd : mg "gcd" = some (.builtin "math.gcd")
  f_isqrt : mg "isqrt" = some (.builtin "math.isqrt")
def clsML : List (Str × Str × Bool) := [("BadNumber", "BadNumber", true), ("BadNumber", "DividedByZero", false), ("BadNumber", "FloorError", true), ("BadPower", "BadNumber", false), ("BadPower", "DividedByZero", false), ("BadPower", "FloorError", true), ("BadSide", "BadNumber", false), ("BadSide", "DividedByZero", false), ("BadSide", "FloorError", true), ("DividedByZero", "BadNumber", false), ("DividedByZero", "DividedByZero", true), ("DividedByZero", "FloorError", true)]
def clsM (a b : Str) : Option Bool := look3 clsML a b
@[simp] theorem clsM_BadNumber_BadNumber : clsM "BadNumber" "BadNumber" = some true := by decide +kernel
@[simp] theorem clsM_BadNumber_DividedByZero : clsM "BadNumber" "DividedByZero" = some false := by decide +kernel
@[simp] theorem clsM_BadNumber_FloorError : clsM "BadNumber" "FloorError" = some true := by decide +kernel
@[simp] theorem clsM_BadPower_BadNumber : clsM "BadPower" "BadNumber" = some false := by decide +kernel
@[simp] theorem clsM_BadPower_DividedByZero : clsM "BadPower" "DividedByZero" = some false := by decide +kernel
@[simp] theorem clsM_BadPower_FloorError : clsM "BadPower" "FloorError" = some true := by decide +kernel
@[simp] theorem clsM_BadSide_BadNumber : clsM "BadSide" "BadNumber" = some false := by decide +kernel
@[simp] theorem clsM_BadSide_DividedByZero : clsM "BadSide" "DividedByZero" = some false := by decide +kernel
@[simp] theorem clsM_BadSide_FloorError : clsM "BadSide" "FloorError" = some true := by decide +kernel
@[simp] theorem clsM_DividedByZero_BadNumber : clsM "DividedByZero" "BadNumber" = some false := by decide +kernel
@[simp] theorem clsM_DividedByZero_DividedByZero : clsM "DividedByZero" "DividedByZero" = some true := by decide +kernel
@[simp] theorem clsM_DividedByZero_FloorError : clsM "DividedByZero" "FloorError" = some true := by decide +kernel
def clsIL : List (Str × Str × Bool) := [("BadNumber", "BadCount", false), ("BadNumber", "BadPower", false), ("BadNumber", "BadText", false), ("BadNumber", "DividedByZero", false), ("BadNumber", "FloorError", true), ("BadPower", "BadCount", false), ("BadPower", "BadPower", true), ("BadPower", "BadText", false), ("BadPower", "DividedByZero", false), ("BadPower", "FloorError", true), ("BadSide", "BadCount", false), ("BadSide", "BadPower", false), ("BadSide", "BadText", false), ("BadSide", "DividedByZero", false), ("BadSide", "FloorError", true), ("DividedByZero", "BadCount", false), ("DividedByZero", "BadPower", false), ("DividedByZero", "BadText", false), ("DividedByZero", "DividedByZero", true), ("DividedByZero", "FloorError", true)]
def clsI (a b : Str) : Option Bool := look3 clsIL a b
@[simp] theorem clsI_BadNumber_BadCount : clsI "BadNumber" "BadCount" = some false := by decide +kernel
@[simp] theorem clsI_BadNumber_BadPower : clsI "BadNumber" "BadPower" = some false := by decide +kernel
@[simp] theorem clsI_BadNumber_BadText : clsI "BadNumber" "BadText" = some false := by decide +kernel
@[simp] theorem clsI_BadNumber_DividedByZero : clsI "BadNumber" "DividedByZero" = some false := by decide +kernel
@[simp] theorem clsI_BadNumber_FloorError : clsI "BadNumber" "FloorError" = some true := by decide +kernel
@[simp] theorem clsI_BadPower_BadCount : clsI "BadPower" "BadCount" = some false := by decide +kernel
@[simp] theorem clsI_BadPower_BadPower : clsI "BadPower" "BadPower" = some true := by decide +kernel
@[simp] theorem clsI_BadPower_BadText : clsI "BadPower" "BadText" = some false := by decide +kernel
@[simp] theorem clsI_BadPower_DividedByZero : clsI "BadPower" "DividedByZero" = some false := by decide +kernel
@[simp] theorem clsI_BadPower_FloorError : clsI "BadPower" "FloorError" = some true := by decide +kernel
@[simp] theorem clsI_BadSide_BadCount : clsI "BadSide" "BadCount" = some false := by decide +kernel
@[simp] theorem clsI_BadSide_BadPower : clsI "BadSide" "BadPower" = some false := by decide +kernel
@[simp] theorem clsI_BadSide_BadText : clsI "BadSide" "BadText" = some false := by decide +kernel
@[simp] theorem clsI_BadSide_DividedByZero : clsI "BadSide" "DividedByZero" = some false := by decide +kernel
@[simp] theorem clsI_BadSide_FloorError : clsI "BadSide" "FloorError" = some true := by decide +kernel
@[simp] theorem clsI_DividedByZero_BadCount : clsI "DividedByZero" "BadCount" = some false := by decide +kernel
@[simp] theorem clsI_DividedByZero_BadPower : clsI "DividedByZero" "BadPower" = some false := by decide +kernel
@[simp] theorem clsI_DividedByZero_BadText : clsI "DividedByZero" "BadText" = some false := by decide +kernel
@[simp] theorem clsI_DividedByZero_DividedByZero : clsI "DividedByZero" "DividedByZero" = some true := by decide +kernel
@[simp] theorem clsI_DividedByZero_FloorError : clsI "DividedByZero" "FloorError" = some true := by decide +kernel
def knownE (a : Str) : Bool := a == "BadNumber" || a == "BadPower" || a == "BadSide"
def initS (i : Nat) : Stmt := match top i with
  | .ClassDef _ _ _ b _ _ _ _ _ _ _ => b.getD 0 (.Pass ⟨0, 0, 0, 0⟩)
  | s => s
theorem in_BadNumber {K : PySem.W.Frag} {fI : Addr} {fd : FuncData} (F : Fun K "__init__" "BadNumber.__init__" (initS 3) fI fd) : ErInit K "BadNumber.__init__" "thing" (initS 3) fI := ⟨⟨_, F⟩, ⟨_, _, _, _, rfl⟩, fun _ _ _ _ _ _ _ _ => rfl, fun _ _ => by rfl, fun _ _ _ => rfl, fun _ _ _ => rfl, fun _ _ _ _ _ => by rfl, fun _ _ _ _ _ => by rfl, ⟨rfl, rfl, rfl⟩, by decide +kernel⟩
theorem in_BadPower {K : PySem.W.Frag} {fI : Addr} {fd : FuncData} (F : Fun K "__init__" "BadPower.__init__" (initS 5) fI fd) : ErInit K "BadPower.__init__" "thing" (initS 5) fI := ⟨⟨_, F⟩, ⟨_, _, _, _, rfl⟩, fun _ _ _ _ _ _ _ _ => rfl, fun _ _ => by rfl, fun _ _ _ => rfl, fun _ _ _ => rfl, fun _ _ _ _ _ => by rfl, fun _ _ _ _ _ => by rfl, ⟨rfl, rfl, rfl⟩, by decide +kernel⟩
theorem in_BadSide {K : PySem.W.Frag} {fI : Addr} {fd : FuncData} (F : Fun K "__init__" "BadSide.__init__" (initS 7) fI fd) : ErInit K "BadSide.__init__" "thing" (initS 7) fI := ⟨⟨_, F⟩, ⟨_, _, _, _, rfl⟩, fun _ _ _ _ _ _ _ _ => rfl, fun _ _ => by rfl, fun _ _ _ => rfl, fun _ _ _ => rfl, fun _ _ _ _ _ => by rfl, fun _ _ _ _ _ => by rfl, ⟨rfl, rfl, rfl⟩, by decide +kernel⟩
structure Ct (K : PySem.W.Frag) (mg : Str → Option Value) : Prop where
  er_DividedByZero : ∃ C, Er0 K mg "DividedByZero" C
  er_BadNumber : ∃ C fI, ErC K mg "BadNumber" "thing" C fI ∧ ErInit K "BadNumber.__init__" "thing" (initS 3) fI
  er_BadPower : ∃ C fI, ErC K mg "BadPower" "thing" C fI ∧ ErInit K "BadPower.__init__" "thing" (initS 5) fI
  er_BadSide : ∃ C fI, ErC K mg "BadSide" "thing" C fI ∧ ErInit K "BadSide.__init__" "thing" (initS 7) fI
  g_BadNumber : ∃ C, mg "BadNumber" = some (.ref C)
  g_DividedByZero : ∃ C, mg "DividedByZero" = some (.ref C)
  g_FloorError : ∃ C, mg "FloorError" = some (.ref C)
  tab : ClsTab ⟨K, mg⟩ clsM
  isi : IsiTab ⟨K, mg⟩ clsI
  get_thing : GetTab ⟨K, mg⟩ knownE "thing"
  dig : Dig K
  ob : ObTab ⟨K, mg⟩ knownO
  fld : FldTab ⟨K, mg⟩ fldO
  gl_FIRST_SIDE : GlobC ⟨K, mg⟩ "FIRST_SIDE" (.tup [.int 1, .int (-1), .int 1, .int 1, .int (-1)])
  gl_NO_SIDE : GlobC ⟨K, mg⟩ "NO_SIDE" (.tup [.int 0, .int 0, .int 0, .int 0, .int 0])
  gl_ONE : GlobC ⟨K, mg⟩ "ONE" (.tup [.int 1, .int 0, .int 1])
  gl_POWER_MOST : GlobC ⟨K, mg⟩ "POWER_MOST" (.int 2000)
theorem vis__law_refused : Vis (defScope (top 70)) "_law_call" := .inl rfl
abbrev ql__law_two_right : Str := (envOfC "_law_two_right" (defScope (top 71)) 0 0 .none).qual ++ "<lambda>"
abbrev ql__law_one_right : Str := (envOfC "_law_one_right" (defScope (top 72)) 0 0 .none).qual ++ "<lambda>"
abbrev ql__law_is_floor_refused : Str := (envOfC "_law_is_floor_refused" (defScope (top 73)) 0 0 .none).qual ++ "<lambda>"
abbrev ql__law_is_great_right : Str := (envOfC "_law_is_great_right" (defScope (top 74)) 0 0 .none).qual ++ "<lambda>"
abbrev sp__law_draw := spDraw
def sp_is_integer : DSp := fun _ ds Q _ => ∃ x, ds = [x] ∧ tyX knownO x = true ∧ Q (.bl (isI x))
def sp_normal : DSp := fun _ ds Q _ => ∃ a b d, ds = [.int a, .int b, .int d] ∧ Sz 8900 d ∧ d ≠ 0 ∧ Q (red a b d)
def sp_pair_sign : DSp := fun _ ds Q _ => ∃ a b, ds = [.int a, .int b] ∧ Sz 200000 a ∧ Sz 200000 b ∧ Q (.int (psg a b))
def sp_negative : DSp := fun _ ds Q _ => ∃ a b m, ds = [tri a b m] ∧ Q (tri (-a) (-b) m)
def sp_times_g : DSp := fun _ ds Q _ => ∃ a b m, ds = [tri a b m] ∧ Q (tri b (a + b) m)
def sp_times_less : DSp := fun _ ds Q _ => ∃ a b m, ds = [tri a b m] ∧ Q (tri (b - a) a m)
def sp_is_whole_number : DSp := fun _ ds Q _ => ∃ a b m, ds = [tri a b m] ∧ 1 ≤ m ∧ Q (.bl (wholeB a b m))
def sp_floor_integer : DSp := fun _ ds Q _ => ∃ a b m, ds = [tri a b m] ∧ Num 6000 a b m ∧ Q (.int (flr a b m))
def sp__law_same : DSp := fun _ ds Q _ => ∃ x, ds = [x, x] ∧ Rok x ∧ Q (.bl true)
def sp_is_number : DSp := fun _ ds Q _ => ∃ x, ds = [x] ∧ Ty1 knownO x ∧ Q (.bl (isNum x))
def sp_sign_of : DSp := fun _ ds Q _ => ∃ a b m, ds = [tri a b m] ∧ Sz 200000 a ∧ Sz 200000 b ∧ Q (.int (psg a b))
def sp_compared : DSp := fun _ ds Q _ => ∃ N a b m c d n, ds = [tri a b m, tri c d n] ∧ Num N a b m ∧ Num N c d n ∧ N ≤ 50000 ∧ Q (.int (psg (a * n - c * m) (b * n - d * m)))
def sp_added : DSp := fun _ ds Q _ => ∃ n m a b d c e f, ds = [tri a b d, tri c e f] ∧ Num n a b d ∧ Num m c e f ∧ n + m ≤ 400000 ∧ Sz 4400 d ∧ Sz 4400 f ∧ Q (red (a * f + c * d) (b * f + e * d) (d * f))
def sp_multiplied : DSp := fun _ ds Q _ => ∃ n m a b d c e f, ds = [tri a b d, tri c e f] ∧ Num n a b d ∧ Num m c e f ∧ n + m ≤ 400000 ∧ Sz 4400 d ∧ Sz 4400 f ∧ Q (red (a * c + b * e) (a * e + b * c + b * e) (d * f))
def sp_ceiling_integer : DSp := fun _ ds Q _ => ∃ a b m, ds = [tri a b m] ∧ Num 6000 a b m ∧ Q (.int (-flr (-a) (-b) m))
def sp__law_pick : DSp := fun W ds Q _ => ∃ d l xs, W = some (d, l) ∧ (ds = [dkD d, .lst xs] ∨ ds = [dkD d, .tup xs]) ∧ 0 < xs.length ∧ xs.length < 2 ^ 62 ∧ ∀ x ∈ xs, Q x
def sp__law_integer : DSp := fun W ds Q _ => ∃ d l, ∃ n : Nat, W = some (d, l) ∧ ds = [dkD d, .int n] ∧ 1 ≤ n ∧ n ≤ 170 ∧ ∀ i, Sz (20 * n + 20) i → Q (.int i)
def sp_taken : DSp := fun _ ds Q _ => ∃ n m a b d c e f, ds = [tri a b d, tri c e f] ∧ Num n a b d ∧ Num m c e f ∧ n + m ≤ 400000 ∧ Sz 4400 d ∧ Sz 4400 f ∧ Q (red (a * f + -c * d) (b * f + -e * d) (d * f))
def sp_divided : DSp := fun _ ds Q _ => ∃ n m a b d c e f, ds = [tri a b d, tri c e f] ∧ Num n a b d ∧ Num m c e f ∧ n + 2 * m ≤ 390000 ∧ m ≤ 2200 ∧ Sz 4400 d ∧ ¬ (c = 0 ∧ e = 0) ∧ Q (red ((a * (c + e) - b * e) * f) ((b * c - a * e) * f) ((c * c + c * e - e * e) * d))
abbrev Pk (x : D) : Prop := Pok 6 400 200000 x
def IntD (x : D) : Prop := ∃ i, x = .int i ∧ Sz 150 i
def Smp (x : D) : Prop := IntD x ∨ ∃ xs, x = .tup xs ∧ xs.length ≤ 5 ∧ ∀ y ∈ xs, IntD y
def Nm (n k : Nat) (x : D) : Prop := ∃ a b d, x = tri a b d ∧ Num n a b d ∧ Sz k d
def Gold (x : D) : Prop := ∃ a b c, x = tri a b c ∧ Sz 142 a ∧ Sz 142 b ∧ Sz 142 c ∧ 1 ≤ c
abbrev bad (x : D) : Er := ⟨"BadNumber", [("thing", x)]⟩
def sp_is_golden : DSp := fun _ ds Q _ => ∃ x, ds = [x] ∧ Ty1 knownO x ∧ Q (.bl (isNum x))
def sp_need_numbers : DSp := fun _ ds Q R => ∃ xs, ds = [.tup xs] ∧ (∀ x ∈ xs, Ty1 knownO x) ∧ (∀ x, xs.find? (fun x => !isNum x) = some x → R (bad x)) ∧ (xs.find? (fun x => !isNum x) = none → Q .non)
def sp1 (n : Nat) : DSp := fun _ ds Q R => ∃ x, ds = [x] ∧ Ty1 knownO x ∧ (isNum x = false → R (bad x)) ∧ (isNum x = true → Nm n n x ∧ ∀ z, Q z)
def sp2 (n k : Nat) : DSp := fun _ ds Q R => ∃ x y, ds = [x, y] ∧ Ty1 knownO x ∧ Ty1 knownO y ∧ (isNum x = false → R (bad x)) ∧ (isNum x = true → isNum y = false → R (bad y)) ∧ (isNum x = true → isNum y = true → Nm n k x ∧ Nm n k y ∧ ∀ z, Q z)
def sp_reduced : DSp := fun _ ds Q R => ∃ x, ds = [x] ∧ Ty1 knownO x ∧ (isNum x = false → R (bad x)) ∧ (isNum x = true → Nm 2000 2000 x ∧ ∀ a b c, Num 2000 a b c → Q (tri a b c))
def sp_sign : DSp := sp1 2000
def sp_integer_below : DSp := sp1 2000
def sp_integer_above : DSp := sp1 2000
def sp_is_whole : DSp := sp1 2000
def sp_conjugate : DSp := sp1 2000
def sp_number_text : DSp := sp1 2000
def sp_plus : DSp := sp2 100000 4400
def sp_minus : DSp := sp2 100000 4400
def sp_is_below : DSp := sp2 2000 2000
def sp_are_equal : DSp := sp2 2000 2000
def sp_times : DSp := fun _ ds Q R => ∃ x y, ds = [x, y] ∧ Ty1 knownO x ∧ Ty1 knownO y ∧ (isNum x = false → R (bad x)) ∧ (isNum x = true → isNum y = false → R (bad y)) ∧ (isNum x = true → isNum y = true → Nm 100000 4400 x ∧ Nm 100000 4400 y ∧ ∀ a b d c e f, x = tri a b d → y = tri c e f → Q (red (a * c + b * e) (a * e + b * c + b * e) (d * f)))
def sp_quotient : DSp := fun _ ds Q R => ∃ x y, ds = [x, y] ∧ Ty1 knownO x ∧ Ty1 knownO y ∧ (isNum x = false → R (bad x)) ∧ (isNum x = true → isNum y = false → R (bad y)) ∧ (isNum x = true → isNum y = true → Nm 2000 2000 x ∧ Nm 2000 2000 y ∧ ∀ c e f, y = tri c e f → if c = 0 ∧ e = 0 then R ⟨"DividedByZero", []⟩ else ∀ z, Q z)
def sp_power : DSp := fun _ ds Q _ => ∃ n : Int, ds = [.int n] ∧ 1 ≤ n ∧ n ≤ 250 ∧ ∀ a b, Sz 260 a → Sz 260 b → Q (tri a b 1)
/-- how a call of a function of numbers ends -/
inductive RO where
  | none | bad (x : D) | zero
def refc : RO → (D → Prop) → (Er → Prop) → Prop
  | .none, Q, _ => ∀ z, Q z
  | .bad x, _, R => R ⟨"BadNumber", [("thing", x)]⟩
  | .zero, _, R => R ⟨"DividedByZero", []⟩
def refD : RO → D
  | .none => .non
  | .bad x => .tup [.str "number", x]
  | .zero => .tup [.str "zero", .bl true]
def sp__law_refused : ASp := fun _ act Q => ∃ o, (∀ Qd R, refc o Qd R → act R Qd) ∧ Q (refD o)
def sp__law_golden : DSp := fun W ds Q _ => ∃ d l, W = some (d, l) ∧ ds = [dkD d] ∧ ∀ x, Gold x → Q x
def sp__law_odd : DSp := fun W ds Q _ => ∃ d l x, W = some (d, l) ∧ ds = [dkD d, x] ∧ Smp x ∧ ∀ y, Pok 4 400 80000 y → Q y
def sp__law_bent : Nat → DSp := fun n W ds Q _ => ∃ d l x, W = some (d, l) ∧ ds = [dkD d, x] ∧ Smp x ∧ (n = 0 → IntD x) ∧ ∀ y, Pok (5 + n) 400 (80000 + n * 100000) y → Q y
def sp__law_value : DSp := fun W ds Q _ => ∃ d l, W = some (d, l) ∧ ds = [dkD d] ∧ ∀ y, Pk y → Q y
def sp__law_is_golden : DSp := fun _ ds Q _ => ∃ x, ds = [x] ∧ rp 64 x = true ∧ Q (.bl (isNum x))
def sp__law_two_right : DSp := fun W ds Q _ => ∃ d l p q, W = some (d, l) ∧ ds = [p, q] ∧ Pk p ∧ Pk q ∧ Q (.bl true)
def sp__law_one_right : DSp := fun W ds Q _ => ∃ d l p, W = some (d, l) ∧ ds = [p] ∧ Pk p ∧ Q (.bl true)
def sp__law_is_great_right : DSp := fun W ds Q _ => ∃ d l, W = some (d, l) ∧ ds = [dkD d] ∧ Q (.bl true)
/-- a floor -/
def FloorD (x : D) : Prop := ∃ ks s, x = .obj "Floor" [("all_keys", ks), ("side", s)] ∧ pl 64 ks = true ∧ pl 64 s = true
def sp__law_is_floor_refused : DSp := fun W ds Q _ => ∃ d l x, W = some (d, l) ∧ ds = [x] ∧ FloorD x ∧ Q (.bl true)
def sp_Floor__eq : DSp := fun _ ds Q _ => ∃ x, ds = [x, x] ∧ FloorD x ∧ Q (.bl true)
/-- keys of a floor: each reduced, no whole one among the first two -/
def KeysD (x : D) : Prop := ∃ ks : List D, x = .tup ks ∧ ks.length = 5 ∧ ∀ k ∈ ks, ∃ a b d, k = tri a b d ∧ 1 ≤ d
def NoWh (x : D) : Prop := ∃ ks : List D, x = .tup ks ∧ ks.length = 5 ∧ ∀ k ∈ ks, ∃ a b d, k = tri a b d ∧ 1 ≤ d ∧ wholeB a b d = false
def KeyIn (x : D) (y : D) : Prop := ∃ a b : Int, x = tri (3 * a + 1) 0 3 ∧ y = tri 1 (3 * b) 3 ∧ Sz 80 a ∧ Sz 80 b
def sp_keys_from : DSp := fun _ ds Q _ => ∃ x y, ds = [x, y] ∧ KeyIn x y ∧ ∀ k, NoWh k → pl 64 k = true → Q k
def sp_whole_directions : DSp := fun _ ds Q _ => ∃ k, ds = [k] ∧ NoWh k ∧ Q (.tup [])
def no5 : D := .tup [.int 0, .int 0, .int 0, .int 0, .int 0]
def sp_sides_of : DSp := fun _ ds Q _ => ∃ k, ds = [k] ∧ NoWh k ∧ Q (.tup [no5])
def sp_is_side : DSp := fun _ ds Q _ => ∃ k, ds = [k, no5] ∧ NoWh k ∧ Q (.bl true)
def sp_Floor : DSp := fun _ ds Q _ => ∃ x y, ds = [x, y, no5] ∧ KeyIn x y ∧ ∀ z, FloorD z → Q z
def eqsO (n : Str) : Option DSp := if n = "Floor" then some sp_Floor__eq else none
@[simp] theorem eqsO_Floor : eqsO "Floor" = some sp_Floor__eq := if_pos rfl
def g_is_integer (W : WD) (R : Er → Prop) : GS :=
  (gRet (gAnd (gBlt (isiX knownO) (gCons (gVar 0) (gCons (gC (.opq (.ty "int"))) gNil))) (gNot (gBlt (isiX knownO) (gCons (gVar 0) (gCons (gC (.opq (.ty "bool"))) gNil))))))
def g_normal (W : WD) (R : Er → Prop) : GS :=
  (gSeq (gSet 3 (gBlt gcdD (gCons (gBlt gcdD (gCons (gVar 0) (gCons (gVar 1) gNil))) (gCons (gVar 2) gNil))))
    (gSeq (gIfS (gB (gBin ltD (gVar 2) (gC (.int 0)))) (gSet 3 (gUn negD (gVar 3))) gSkip)
    (gRet (gTup (gCons (gBin fdivA (gVar 0) (gVar 3)) (gCons (gBin fdivA (gVar 1) (gVar 3)) (gCons (gBin fdivA (gVar 2) (gVar 3)) gNil)))))))
def g_pair_sign (W : WD) (R : Er → Prop) : GS :=
  (gSeq (gSet 2 (gBin addD (gBin mulD (gC (.int 2)) (gVar 0)) (gVar 1)))
    (gSeq (gIfS (gAndT (gB (gBin geD (gVar 2) (gC (.int 0)))) (gB (gBin geD (gVar 1) (gC (.int 0))))) (gRet (gIf (gOrT (gB (gBin gtD (gVar 2) (gC (.int 0)))) (gB (gBin gtD (gVar 1) (gC (.int 0))))) (gC (.int 1)) (gC (.int 0)))) gSkip)
    (gSeq (gIfS (gAndT (gB (gBin leD (gVar 2) (gC (.int 0)))) (gB (gBin leD (gVar 1) (gC (.int 0))))) (gRet (gUn negD (gC (.int 1)))) gSkip)
    (gSeq (gSet 3 (gBin gtD (gBin mulD (gVar 2) (gVar 2)) (gBin mulD (gBin mulD (gC (.int 5)) (gVar 1)) (gVar 1))))
    (gSeq (gIfS (gB (gBin gtD (gVar 2) (gC (.int 0)))) (gRet (gIf (gTru (gVar 3)) (gC (.int 1)) (gUn negD (gC (.int 1))))) gSkip)
    (gRet (gIf (gTru (gVar 3)) (gUn negD (gC (.int 1))) (gC (.int 1)))))))))
def g_negative (W : WD) (R : Er → Prop) : GS :=
  (gRet (gTup (gCons (gUn negD (gBin ixD (gVar 0) (gC (.int 0)))) (gCons (gUn negD (gBin ixD (gVar 0) (gC (.int 1)))) (gCons (gBin ixD (gVar 0) (gC (.int 2))) gNil)))))
def g_times_g (W : WD) (R : Er → Prop) : GS :=
  (gRet (gTup (gCons (gBin ixD (gVar 0) (gC (.int 1))) (gCons (gBin addD (gBin ixD (gVar 0) (gC (.int 0))) (gBin ixD (gVar 0) (gC (.int 1)))) (gCons (gBin ixD (gVar 0) (gC (.int 2))) gNil)))))
def g_times_less (W : WD) (R : Er → Prop) : GS :=
  (gRet (gTup (gCons (gBin subD (gBin ixD (gVar 0) (gC (.int 1))) (gBin ixD (gVar 0) (gC (.int 0)))) (gCons (gBin ixD (gVar 0) (gC (.int 0))) (gCons (gBin ixD (gVar 0) (gC (.int 2))) gNil)))))
def g_is_whole_number (W : WD) (R : Er → Prop) : GS :=
  (gRet (gAnd (gBin eqD (gBin modD (gBin ixD (gVar 0) (gC (.int 0))) (gBin ixD (gVar 0) (gC (.int 2)))) (gC (.int 0))) (gBin eqD (gBin modD (gBin ixD (gVar 0) (gC (.int 1))) (gBin ixD (gVar 0) (gC (.int 2)))) (gC (.int 0)))))
def g_floor_integer (W : WD) (R : Er → Prop) : GS :=
  (gSeq (gPar [1, 2, 3] (gCons (gBin addD (gBin mulD (gC (.int 2)) (gBin ixD (gVar 0) (gC (.int 0)))) (gBin ixD (gVar 0) (gC (.int 1)))) (gCons (gBin ixD (gVar 0) (gC (.int 1))) (gCons (gBin mulD (gC (.int 2)) (gBin ixD (gVar 0) (gC (.int 2)))) gNil))))
    (gSeq (gSet 4 (gBlt isqrtD (gCons (gBin mulD (gBin mulD (gC (.int 5)) (gVar 2)) (gVar 2)) gNil)))
    (gSeq (gIfS (gB (gBin geD (gVar 2) (gC (.int 0)))) (gRet (gBin fdivD (gBin addD (gVar 1) (gVar 4)) (gVar 3))) gSkip)
    (gRet (gBin fdivD (gBin subD (gBin subD (gVar 1) (gVar 4)) (gC (.int 1))) (gVar 3))))))
def g_Floor__eq (W : WD) (R : Er → Prop) : GS :=
  (gRet (gAnd (gIsO knownO "Floor" (gVar 1)) (gAnd (gBin eqD (gFld fldO "all_keys" (gVar 0)) (gFld fldO "all_keys" (gVar 1))) (gBin eqD (gFld fldO "side" (gVar 0)) (gFld fldO "side" (gVar 1))))))
def g__law_same (W : WD) (R : Er → Prop) : GS :=
  (gRet (gBin eqD (gBlt reprB (gCons (gVar 0) gNil)) (gBlt reprB (gCons (gVar 1) gNil))))
def g__law_is_golden (W : WD) (R : Er → Prop) : GS :=
  (gSeq (gIfS (gOrT (gNotT (gTru (gBlt (isiX knownO) (gCons (gVar 0) (gCons (gC (.opq (.ty "tuple"))) gNil))))) (gB (gBin neD (gBlt lenD (gCons (gVar 0) gNil)) (gC (.int 3))))) (gRet (gC (.bl false))) gSkip)
    (gRet (gAnd (gBin eqD (gFrz (gLc (gIter (gVar 0)) (ggName 1) (gOrT (gNotT (gTru (gBlt (isiX knownO) (gCons (gVar 1) (gCons (gC (.opq (.ty "int"))) gNil))))) (gTru (gBlt (isiX knownO) (gCons (gVar 1) (gCons (gC (.opq (.ty "bool"))) gNil))))) (gC (.int 1)) [1])) (gFrz (gLst gNil))) (gBin gtD (gBin ixD (gVar 0) (gC (.int 2))) (gC (.int 0))))))
def g__law_refused (W : WD) (f0 : Addr) (act : ND.Act) : GS :=
  (gSeq (gTry clsM 3 (fun _ => False) (fun R => (gDrop (gAct f0 act R))) [⟨"BadNumber", some 1, fun er a => (gSeq (gSet 2 (gOr (gIsE clsI "DividedByZero" 1 er a) (gOr (gIsE clsI "BadCount" 1 er a) (gOr (gIsE clsI "BadPower" 1 er a) (gIsE clsI "BadText" 1 er a)))))
    (gRet (gIf (gOrT (gTru (gVar 2)) (gNotT (gTru (gIsE clsI "FloorError" 1 er a)))) (gTup (gCons (gC (.str "both")) (gCons (gC .non) gNil))) (gTup (gCons (gC (.str "number")) (gCons (gErF knownE "thing" 1 er a) gNil))))))⟩, ⟨"DividedByZero", some 1, fun er a => (gRet (gTup (gCons (gC (.str "zero")) (gCons (gIsE clsI "FloorError" 1 er a) gNil))))⟩, ⟨"FloorError", none, fun er a => (gRet (gTup (gCons (gC (.str "other")) (gCons (gC .non) gNil))))⟩])
    (gRet (gC .non)))
def g_is_number (W : WD) (R : Er → Prop) : GS :=
  (gSeq (gIfS (gOrT (gNotT (gTru (gBlt (isiX knownO) (gCons (gVar 0) (gCons (gC (.opq (.ty "tuple"))) gNil))))) (gB (gBin neD (gBlt lenD (gCons (gVar 0) gNil)) (gC (.int 3))))) (gRet (gC (.bl false))) gSkip)
    (gRet (gAnd (gCall sp_is_integer W R (gCons (gBin ixD (gVar 0) (gC (.int 0))) gNil)) (gAnd (gCall sp_is_integer W R (gCons (gBin ixD (gVar 0) (gC (.int 1))) gNil)) (gAnd (gCall sp_is_integer W R (gCons (gBin ixD (gVar 0) (gC (.int 2))) gNil)) (gBin geD (gBin ixD (gVar 0) (gC (.int 2))) (gC (.int 1))))))))
def g_sign_of (W : WD) (R : Er → Prop) : GS :=
  (gRet (gCall sp_pair_sign W R (gCons (gBin ixD (gVar 0) (gC (.int 0))) (gCons (gBin ixD (gVar 0) (gC (.int 1))) gNil))))
def g_compared (W : WD) (R : Er → Prop) : GS :=
  (gRet (gCall sp_pair_sign W R (gCons (gBin subD (gBin mulD (gBin ixD (gVar 0) (gC (.int 0))) (gBin ixD (gVar 1) (gC (.int 2)))) (gBin mulD (gBin ixD (gVar 1) (gC (.int 0))) (gBin ixD (gVar 0) (gC (.int 2))))) (gCons (gBin subD (gBin mulD (gBin ixD (gVar 0) (gC (.int 1))) (gBin ixD (gVar 1) (gC (.int 2)))) (gBin mulD (gBin ixD (gVar 1) (gC (.int 1))) (gBin ixD (gVar 0) (gC (.int 2))))) gNil))))
def g_added (W : WD) (R : Er → Prop) : GS :=
  (gSeq (gSet 2 (gBin mulD (gBin ixD (gVar 0) (gC (.int 2))) (gBin ixD (gVar 1) (gC (.int 2)))))
    (gRet (gCall sp_normal W R (gCons (gBin addD (gBin mulD (gBin ixD (gVar 0) (gC (.int 0))) (gBin ixD (gVar 1) (gC (.int 2)))) (gBin mulD (gBin ixD (gVar 1) (gC (.int 0))) (gBin ixD (gVar 0) (gC (.int 2))))) (gCons (gBin addD (gBin mulD (gBin ixD (gVar 0) (gC (.int 1))) (gBin ixD (gVar 1) (gC (.int 2)))) (gBin mulD (gBin ixD (gVar 1) (gC (.int 1))) (gBin ixD (gVar 0) (gC (.int 2))))) (gCons (gVar 2) gNil))))))
def g_multiplied (W : WD) (R : Er → Prop) : GS :=
  (gSeq (gSetT [2, 3, 4, 5] (gTup (gCons (gBin ixD (gVar 0) (gC (.int 0))) (gCons (gBin ixD (gVar 0) (gC (.int 1))) (gCons (gBin ixD (gVar 1) (gC (.int 0))) (gCons (gBin ixD (gVar 1) (gC (.int 1))) gNil))))))
    (gRet (gCall sp_normal W R (gCons (gBin addD (gBin mulD (gVar 2) (gVar 4)) (gBin mulD (gVar 3) (gVar 5))) (gCons (gBin addD (gBin addD (gBin mulD (gVar 2) (gVar 5)) (gBin mulD (gVar 3) (gVar 4))) (gBin mulD (gVar 3) (gVar 5))) (gCons (gBin mulD (gBin ixD (gVar 0) (gC (.int 2))) (gBin ixD (gVar 1) (gC (.int 2)))) gNil))))))
def g_ceiling_integer (W : WD) (R : Er → Prop) : GS :=
  (gRet (gUn negD (gCall sp_floor_integer W R (gCons (gCall sp_negative W R (gCons (gVar 0) gNil)) gNil))))
def g_power (W : WD) (R : Er → Prop) : GS :=
  (gSeq (gIfS (gOrT (gNotT (gTru (gCall sp_is_integer W R (gCons (gVar 0) gNil)))) (gNotT (gB (gChain leD leD (gUn negD (gC (.int 2000))) (gVar 0) (gC (.int 2000)))))) (gRaise "BadPower" "thing" (gVar 0) R) gSkip)
    (gSeq (gSet 1 (gC (.tup [.int 1, .int 0, .int 1])))
    (gSeq (gFor (gRng1 (gCons (gBlt absD (gCons (gVar 0) gNil)) gNil)) (ggName 2) (gSet 1 (gIf (gB (gBin gtD (gVar 0) (gC (.int 0)))) (gCall sp_times_g W R (gCons (gVar 1) gNil)) (gCall sp_times_less W R (gCons (gVar 1) gNil)))))
    (gRet (gVar 1)))))
def g_whole_directions (W : WD) (R : Er → Prop) : GS :=
  (gRet (gBlt tupleD (gCons (gFrz (gLc (gRng1 (gCons (gC (.int 5)) gNil)) (ggName 1) (gTru (gCall sp_is_whole_number W (fun _ => False) (gCons (gBin ixD (gVar 0) (gVar 1)) gNil))) (gVar 1) [1])) gNil)))
def g__law_pick (W : WD) (R : Er → Prop) : GS :=
  (gRet (gBin ixD (gVar 1) (gCall sp__law_draw W R (gCons (gVar 0) (gCons (gBlt lenD (gCons (gVar 1) gNil)) gNil)))))
def g__law_integer (W : WD) (R : Er → Prop) : GS :=
  (gSeq (gPar [2, 3, 4] (gCons (gCall sp__law_draw W R (gCons (gVar 0) (gCons (gC (.int 9)) gNil))) (gCons (gBin subD (gC (.int 1)) (gBin mulD (gC (.int 2)) (gCall sp__law_draw W R (gCons (gVar 0) (gCons (gC (.int 2)) gNil))))) (gCons (gC (.int 0)) gNil))))
    (gSeq (gIfS (gB (gBin ltD (gVar 2) (gC (.int 6)))) (gRet (gBin mulD (gVar 3) (gCall sp__law_draw W R (gCons (gVar 0) (gCons (gBin ixD (gTup (gCons (gC (.int 1)) (gCons (gC (.int 3)) (gCons (gC (.int 5)) (gCons (gC (.int 13)) (gCons (gC (.int 100)) (gCons (gC (.int 1000)) gNil))))))) (gVar 2)) gNil))))) gSkip)
    (gSeq (gIfS (gB (gBin eqD (gVar 2) (gC (.int 6)))) (gRet (gBin mulD (gVar 3) (gBin subD (gBlt intB (gCons (gBin repS (gC (.str "9")) (gBin mulD (gC (.int 6)) (gVar 1))) gNil)) (gCall sp__law_draw W R (gCons (gVar 0) (gCons (gC (.int 50)) gNil)))))) gSkip)
    (gSeq (gFor (gRng1 (gCons (gBin addD (gC (.int 1)) (gCall sp__law_draw W R (gCons (gVar 0) (gCons (gVar 1) gNil)))) gNil)) (ggName 5) (gSet 4 (gBin addD (gBin mulD (gVar 4) (gBin powD (gC (.int 10)) (gC (.int 6)))) (gCall sp__law_draw W R (gCons (gVar 0) (gCons (gBin powD (gC (.int 10)) (gC (.int 6))) gNil))))))
    (gRet (gBin mulD (gVar 3) (gVar 4)))))))
def g_taken (W : WD) (R : Er → Prop) : GS :=
  (gRet (gCall sp_added W R (gCons (gVar 0) (gCons (gCall sp_negative W R (gCons (gVar 1) gNil)) gNil))))
def g_divided (W : WD) (R : Er → Prop) : GS :=
  (gSeq (gPar [2, 3] (gCons (gBin ixD (gVar 1) (gC (.int 0))) (gCons (gBin ixD (gVar 1) (gC (.int 1))) gNil)))
    (gSeq (gSet 4 (gCall sp_multiplied W R (gCons (gTup (gCons (gBin ixD (gVar 0) (gC (.int 0))) (gCons (gBin ixD (gVar 0) (gC (.int 1))) (gCons (gC (.int 1)) gNil)))) (gCons (gTup (gCons (gBin addD (gVar 2) (gVar 3)) (gCons (gUn negD (gVar 3)) (gCons (gC (.int 1)) gNil)))) gNil))))
    (gSeq (gSet 5 (gBin subD (gBin addD (gBin mulD (gVar 2) (gVar 2)) (gBin mulD (gVar 2) (gVar 3))) (gBin mulD (gVar 3) (gVar 3))))
    (gRet (gCall sp_normal W R (gCons (gBin mulD (gBin ixD (gVar 4) (gC (.int 0))) (gBin ixD (gVar 1) (gC (.int 2)))) (gCons (gBin mulD (gBin ixD (gVar 4) (gC (.int 1))) (gBin ixD (gVar 1) (gC (.int 2)))) (gCons (gBin mulD (gVar 5) (gBin ixD (gVar 0) (gC (.int 2)))) gNil))))))))
def g_need_numbers (W : WD) (R : Er → Prop) : GS :=
  (gFor (gIter (gVar 0)) (ggName 1) (gIfS (gNotT (gTru (gCall sp_is_number W R (gCons (gVar 1) gNil)))) (gRaise "BadNumber" "thing" (gVar 1) R) gSkip))
def g_is_golden (W : WD) (R : Er → Prop) : GS :=
  (gRet (gCall sp_is_number W R (gCons (gVar 0) gNil)))
def g_sides_of (W : WD) (R : Er → Prop) : GS :=
  (gSeq (gSet 1 (gCall sp_whole_directions W R (gCons (gVar 0) gNil)))
    (gSeq (gIfS (gB (gBin eqD (gBlt lenD (gCons (gVar 1) gNil)) (gC (.int 0)))) (gRet (gTup (gCons (gC (.tup [.int 0, .int 0, .int 0, .int 0, .int 0])) gNil))) gSkip)
    (gSeq (gIfS (gB (gBin eqD (gBlt lenD (gCons (gVar 1) gNil)) (gC (.int 1)))) (gSeq (gSet 4 (gBin ixD (gVar 1) (gC (.int 0))))
    (gSeq (gSet 5 (gBlt tupleD (gCons (gFrz (gLc (gRng1 (gCons (gC (.int 5)) gNil)) (ggName 6) gYes (gIf (gB (gBin eqD (gVar 6) (gVar 4))) (gC (.int 1)) (gC (.int 0))) [6])) gNil)))
    (gRet (gTup (gCons (gBlt tupleD (gCons (gFrz (gLc (gIter (gVar 5)) (ggName 7) gYes (gUn negD (gVar 7)) [7])) gNil)) (gCons (gVar 5) gNil)))))) gSkip)
    (gSeq (gSetL 2 (gLst gNil))
    (gSeq (gFor (gRng1 (gCons (gC (.int 5)) gNil)) (ggName 3) (gSeq (gSet 5 (gBlt tupleD (gCons (gFrz (gLc (gRng1 (gCons (gC (.int 5)) gNil)) (ggName 6) gYes (gBin ixD (gC (.tup [.int 1, .int (-1), .int 1, .int 1, .int (-1)])) (gBin modD (gBin subD (gVar 6) (gVar 3)) (gC (.int 5)))) [6])) gNil)))
    (gSeq (gApp 2 (gVar 5))
    (gApp 2 (gBlt tupleD (gCons (gFrz (gLc (gIter (gVar 5)) (ggName 7) gYes (gUn negD (gVar 7)) [7])) gNil))))))
    (gRet (gBlt tupleD (gCons (gFrz (gBltF sortT (gCons (gVarB 2) gNil))) gNil))))))))
def g__law_golden (W : WD) (R : Er → Prop) : GS :=
  (gSeq (gSet 1 (gCall sp__law_draw W R (gCons (gVar 0) (gCons (gC (.int 6)) gNil))))
    (gSeq (gIfS (gB (gBin eqD (gVar 1) (gC (.int 0)))) (gRet (gTup (gCons (gC (.int 0)) (gCons (gC (.int 0)) (gCons (gBin addD (gC (.int 1)) (gCall sp__law_draw W R (gCons (gVar 0) (gCons (gC (.int 5)) gNil)))) gNil))))) gSkip)
    (gRet (gTup (gCons (gCall sp__law_integer W R (gCons (gVar 0) (gCons (gC (.int 6)) gNil))) (gCons (gCall sp__law_integer W R (gCons (gVar 0) (gCons (gC (.int 6)) gNil))) (gCons (gBin addD (gC (.int 1)) (gIf (gB (gBin ltD (gVar 1) (gC (.int 4)))) (gCall sp__law_draw W R (gCons (gVar 0) (gCons (gC (.int 12)) gNil))) (gBlt absD (gCons (gCall sp__law_integer W R (gCons (gVar 0) (gCons (gC (.int 6)) gNil))) gNil)))) gNil)))))))
def g__law_odd (W : WD) (R : Er → Prop) : GS :=
  (gSeq (gSet 2 (gFrz (gLst (gCons (gC .non) (gCons (gC (.bl true)) (gCons (gC (.bl false)) (gCons (gC (.int 0)) (gCons (gC (.int 1)) (gCons (gUn negD (gC (.int 1))) (gCons (gC (.int 2)) (gCons (gC (.str "")) (gCons (gC (.str "0+0g")) (gCons (gTup gNil) (gCons (gTup (gCons (gTup gNil) gNil)) (gCons (gFrz (gLst gNil)) (gCons (gC (.dic [])) (gCons (gTup (gCons (gC (.int 0)) gNil)) (gCons (gTup (gCons (gC (.int 0)) (gCons (gC (.int 1)) gNil))) (gCons (gFrz (gLst (gCons (gC (.int 0)) (gCons (gC (.int 1)) (gCons (gC (.int 1)) gNil))))) (gCons (gTup (gCons (gC (.int 1)) (gCons (gC (.int 0)) gNil))) (gCons (gBlt intB (gCons (gBin repS (gC (.str "9")) (gC (.int 100))) gNil)) gNil)))))))))))))))))))))
    (gSeq (gSet 2 (gBin addD (gVar 2) (gFrz (gLst (gCons (gC (.str "1\n~")) (gCons (gDic1 (.inr "a") (gTup (gCons (gC (.int 1)) (gCons (gC (.int 2)) (gCons (gC (.int 3)) gNil))))) (gCons (gTup (gCons (gTup (gCons (gC (.int 0)) (gCons (gC (.int 1)) gNil))) (gCons (gC (.int 1)) (gCons (gC (.int 1)) gNil)))) (gCons (gTup (gCons (gC (.int 0)) (gCons (gC (.int 0)) (gCons (gC (.int 0)) gNil)))) (gCons (gTup (gCons (gC (.int 0)) (gCons (gC (.int 1)) (gCons (gC (.int 1)) (gCons (gC (.int 1)) gNil))))) (gCons (gTup (gCons (gC .non) (gCons (gC (.int 0)) (gCons (gC (.int 1)) gNil)))) (gCons (gTup (gCons (gC (.int 1)) (gCons (gC (.int 2)) (gCons (gUn negD (gC (.int 3))) gNil)))) (gCons (gTup (gCons (gC (.int 1)) (gCons (gC (.int 2)) (gCons (gC (.bl true)) gNil)))) gNil))))))))))))
    (gSeq (gSet 2 (gBin addD (gVar 2) (gFrz (gLst (gCons (gTup (gCons (gC (.bl false)) (gCons (gC (.int 0)) (gCons (gC (.int 1)) gNil)))) (gCons (gTup (gCons (gC (.int 1)) (gCons (gC (.str "0")) (gCons (gC (.int 1)) gNil)))) (gCons (gTup (gCons (gC (.int 1)) (gCons (gC (.int 2)) (gCons (gC (.int 0)) gNil)))) (gCons (gTup (gCons (gC (.int 0)) (gCons (gC (.int 0)) (gCons (gUn negD (gC (.int 1))) gNil)))) (gCons (gTup (gCons (gFrz (gLst (gCons (gC (.int 1)) gNil))) (gCons (gC (.int 2)) (gCons (gC (.int 3)) gNil)))) (gCons (gTup (gCons (gC (.int 1)) (gCons (gC (.int 2)) (gCons (gC .non) gNil)))) (gCons (gUn negD (gBlt intB (gCons (gBin repS (gC (.str "9")) (gC (.int 100))) gNil))) (gCons (gC (.str "1+1g")) gNil))))))))))))
    (gSeq (gIfS (gTru (gBlt (isiX knownO) (gCons (gVar 1) (gCons (gC (.opq (.ty "tuple"))) gNil)))) (gSet 2 (gBin addD (gVar 2) (gBin mulD (gFrz (gLst (gCons (gFrz (gBltF listD (gCons (gVar 1) gNil))) (gCons (gBin addD (gVar 1) (gTup (gCons (gC (.int 1)) gNil))) (gCons (gSl slD (gVar 1) (gPart (gC (.int 1))) gNoPart) (gCons (gSl slD (gVar 1) gNoPart (gPart (gUn negD (gC (.int 1))))) (gCons (gTup (gCons (gVar 1) gNil)) (gCons (gBin addD (gSl slD (gVar 1) gNoPart (gPart (gC (.int 2)))) (gTup (gCons (gC (.int 0)) gNil))) (gCons (gBin addD (gSl slD (gVar 1) gNoPart (gPart (gC (.int 2)))) (gVar 1)) (gCons (gTup (gCons (gVar 1) (gCons (gVar 1) (gCons (gVar 1) gNil)))) gNil)))))))))) (gC (.int 2))))) (gIfS (gTru (gBlt (isiX knownO) (gCons (gVar 1) (gCons (gC (.opq (.ty "int"))) gNil)))) (gSet 2 (gBin addD (gVar 2) (gBin mulD (gFrz (gLst (gCons (gBin eqD (gVar 1) (gC (.int 1))) (gCons (gFrz (gLst (gCons (gVar 1) gNil))) (gCons (gTup (gCons (gVar 1) gNil)) (gCons (gBlt strI (gCons (gVar 1) gNil)) (gCons (gBin mulD (gVar 1) (gC (.int 2))) (gCons (gUn negD (gVar 1)) (gCons (gBin subD (gUn negD (gC (.int 1))) (gBlt absD (gCons (gVar 1) gNil))) gNil))))))))) (gC (.int 3))))) gSkip))
    (gRet (gCall sp__law_pick W R (gCons (gVar 0) (gCons (gVar 2) gNil))))))))
def g_reduced (W : WD) (R : Er → Prop) : GS :=
  (gSeq (gDrop (gCall sp_need_numbers W R (gCons (gTup (gCons (gVar 0) gNil)) gNil)))
    (gRet (gCall sp_normal W R (gCons (gBin ixD (gVar 0) (gC (.int 0))) (gCons (gBin ixD (gVar 0) (gC (.int 1))) (gCons (gBin ixD (gVar 0) (gC (.int 2))) gNil))))))
def g_plus (W : WD) (R : Er → Prop) : GS :=
  (gSeq (gDrop (gCall sp_need_numbers W R (gCons (gTup (gCons (gVar 0) (gCons (gVar 1) gNil))) gNil)))
    (gRet (gCall sp_added W R (gCons (gVar 0) (gCons (gVar 1) gNil)))))
def g_minus (W : WD) (R : Er → Prop) : GS :=
  (gSeq (gDrop (gCall sp_need_numbers W R (gCons (gTup (gCons (gVar 0) (gCons (gVar 1) gNil))) gNil)))
    (gRet (gCall sp_taken W R (gCons (gVar 0) (gCons (gVar 1) gNil)))))
def g_times (W : WD) (R : Er → Prop) : GS :=
  (gSeq (gDrop (gCall sp_need_numbers W R (gCons (gTup (gCons (gVar 0) (gCons (gVar 1) gNil))) gNil)))
    (gRet (gCall sp_multiplied W R (gCons (gVar 0) (gCons (gVar 1) gNil)))))
def g_quotient (W : WD) (R : Er → Prop) : GS :=
  (gSeq (gDrop (gCall sp_need_numbers W R (gCons (gTup (gCons (gVar 0) (gCons (gVar 1) gNil))) gNil)))
    (gSeq (gIfS (gAndT (gB (gBin eqD (gBin ixD (gVar 1) (gC (.int 0))) (gC (.int 0)))) (gB (gBin eqD (gBin ixD (gVar 1) (gC (.int 1))) (gC (.int 0))))) (gRaise0 "DividedByZero" R) gSkip)
    (gRet (gCall sp_divided W R (gCons (gVar 0) (gCons (gVar 1) gNil))))))
def g_sign (W : WD) (R : Er → Prop) : GS :=
  (gSeq (gDrop (gCall sp_need_numbers W R (gCons (gTup (gCons (gVar 0) gNil)) gNil)))
    (gRet (gCall sp_sign_of W R (gCons (gVar 0) gNil))))
def g_is_below (W : WD) (R : Er → Prop) : GS :=
  (gSeq (gDrop (gCall sp_need_numbers W R (gCons (gTup (gCons (gVar 0) (gCons (gVar 1) gNil))) gNil)))
    (gRet (gBin ltD (gCall sp_compared W R (gCons (gVar 0) (gCons (gVar 1) gNil))) (gC (.int 0)))))
def g_are_equal (W : WD) (R : Er → Prop) : GS :=
  (gSeq (gDrop (gCall sp_need_numbers W R (gCons (gTup (gCons (gVar 0) (gCons (gVar 1) gNil))) gNil)))
    (gRet (gBin eqD (gCall sp_compared W R (gCons (gVar 0) (gCons (gVar 1) gNil))) (gC (.int 0)))))
def g_integer_below (W : WD) (R : Er → Prop) : GS :=
  (gSeq (gDrop (gCall sp_need_numbers W R (gCons (gTup (gCons (gVar 0) gNil)) gNil)))
    (gRet (gCall sp_floor_integer W R (gCons (gVar 0) gNil))))
def g_integer_above (W : WD) (R : Er → Prop) : GS :=
  (gSeq (gDrop (gCall sp_need_numbers W R (gCons (gTup (gCons (gVar 0) gNil)) gNil)))
    (gRet (gCall sp_ceiling_integer W R (gCons (gVar 0) gNil))))
def g_is_whole (W : WD) (R : Er → Prop) : GS :=
  (gSeq (gDrop (gCall sp_need_numbers W R (gCons (gTup (gCons (gVar 0) gNil)) gNil)))
    (gRet (gCall sp_is_whole_number W R (gCons (gVar 0) gNil))))
def g_conjugate (W : WD) (R : Er → Prop) : GS :=
  (gSeq (gDrop (gCall sp_need_numbers W R (gCons (gTup (gCons (gVar 0) gNil)) gNil)))
    (gRet (gCall sp_normal W R (gCons (gBin addD (gBin ixD (gVar 0) (gC (.int 0))) (gBin ixD (gVar 0) (gC (.int 1)))) (gCons (gUn negD (gBin ixD (gVar 0) (gC (.int 1)))) (gCons (gBin ixD (gVar 0) (gC (.int 2))) gNil))))))
def g_keys_from (W : WD) (R : Er → Prop) : GS :=
  (gSeq (gSetL 2 (gLst (gCons (gCall sp_normal W R (gCons (gBin ixD (gVar 0) (gC (.int 0))) (gCons (gBin ixD (gVar 0) (gC (.int 1))) (gCons (gBin ixD (gVar 0) (gC (.int 2))) gNil)))) (gCons (gCall sp_normal W R (gCons (gBin ixD (gVar 1) (gC (.int 0))) (gCons (gBin ixD (gVar 1) (gC (.int 1))) (gCons (gBin ixD (gVar 1) (gC (.int 2))) gNil)))) gNil))))
    (gSeq (gFor (gRng2 (gCons (gC (.int 1)) (gCons (gC (.int 4)) gNil))) (ggName 3) (gApp 2 (gCall sp_taken W R (gCons (gCall sp_negative W R (gCons (gCall sp_times_g W R (gCons (gBin ixD (gVarB 2) (gVar 3)) gNil)) gNil)) (gCons (gBin ixD (gVarB 2) (gBin subD (gVar 3) (gC (.int 1)))) gNil)))))
    (gRet (gBlt tupleD (gCons (gVarB 2) gNil)))))
def g_is_side (W : WD) (R : Er → Prop) : GS :=
  (gSeq (gIfS (gOrT (gNotT (gTru (gBlt (isiX knownO) (gCons (gVar 1) (gCons (gC (.opq (.ty "tuple"))) gNil))))) (gOrT (gB (gBin neD (gBlt lenD (gCons (gVar 1) gNil)) (gC (.int 5)))) (gNotT (gTru (gBlt allD (gCons (gFrz (gLc (gIter (gVar 1)) (ggName 2) gYes (gCall sp_is_integer W (fun _ => False) (gCons (gVar 2) gNil)) [2])) gNil)))))) (gRet (gC (.bl false))) gSkip)
    (gRet (gBin (inD false) (gVar 1) (gCall sp_sides_of W R (gCons (gVar 0) gNil)))))
def g_number_text (W : WD) (R : Er → Prop) : GS :=
  (gSeq (gSetT [1, 2, 3] (gCall sp_reduced W R (gCons (gVar 0) gNil)))
    (gSeq (gSet 4 (gIf (gB (gBin geD (gVar 2) (gC (.int 0)))) (gC (.str "+")) (gC (.str "-"))))
    (gSeq (gSet 5 (gBin addD (gBin addD (gBin addD (gBlt strI (gCons (gVar 1) gNil)) (gVar 4)) (gBlt strI (gCons (gBlt absD (gCons (gVar 2) gNil)) gNil))) (gC (.str "g"))))
    (gRet (gIf (gB (gBin eqD (gVar 3) (gC (.int 1)))) (gVar 5) (gBin addD (gBin addD (gVar 5) (gC (.str "/"))) (gBlt strI (gCons (gVar 3) gNil))))))))
def g_Floor (W : WD) (R : Er → Prop) : GS :=
  (gSeq (gFor (gIter (gTup (gCons (gVar 1) (gCons (gVar 2) gNil)))) (ggName 4) (gIfS (gNotT (gTru (gCall sp_is_number W R (gCons (gVar 4) gNil)))) (gRaise "BadNumber" "thing" (gVar 4) R) gSkip))
    (gSeq (gSet 5 (gCall sp_keys_from W R (gCons (gVar 1) (gCons (gVar 2) gNil))))
    (gSeq (gIfS (gNotT (gTru (gCall sp_is_side W R (gCons (gVar 5) (gCons (gVar 3) gNil))))) (gRaise "BadSide" "thing" (gVar 3) R) gSkip)
    (gSeq (gSetF fldO 0 "all_keys" (gVar 5))
    (gSetF fldO 0 "side" (gVar 3))))))
def g__law_bent (spR : DSp) (W : WD) (R : Er → Prop) : GS :=
  (gSeq (gIfS (gOrT (gNotT (gTru (gBlt (isiX knownO) (gCons (gVar 1) (gCons (gC (.opq (.ty "tuple"))) gNil))))) (gOrT (gB (gBin eqD (gVar 1) (gTup gNil))) (gB (gBin eqD (gCall sp__law_draw W R (gCons (gVar 0) (gCons (gC (.int 3)) gNil))) (gC (.int 0)))))) (gRet (gCall sp__law_odd W R (gCons (gVar 0) (gCons (gVar 1) gNil)))) gSkip)
    (gSeq (gSet 2 (gCall sp__law_draw W R (gCons (gVar 0) (gCons (gBlt lenD (gCons (gVar 1) gNil)) gNil))))
    (gRet (gBin addD (gBin addD (gSl slD (gVar 1) gNoPart (gPart (gVar 2))) (gTup (gCons (gCall spR W R (gCons (gVar 0) (gCons (gBin ixD (gVar 1) (gVar 2)) gNil))) gNil))) (gSl slD (gVar 1) (gPart (gBin addD (gVar 2) (gC (.int 1)))) gNoPart)))))
def g__law_value (W : WD) (R : Er → Prop) : GS :=
  (gSeq (gPar [1, 2] (gCons (gCall sp__law_draw W R (gCons (gVar 0) (gCons (gC (.int 5)) gNil))) (gCons (gCall sp__law_golden W R (gCons (gVar 0) gNil)) gNil)))
    (gSeq (gIfS (gB (gBin eqD (gVar 1) (gC (.int 0)))) (gRet (gCall sp__law_odd W R (gCons (gVar 0) (gCons (gVar 2) gNil)))) gSkip)
    (gRet (gIf (gB (gBin ltD (gVar 1) (gC (.int 3)))) (gCall (sp__law_bent 1) W R (gCons (gVar 0) (gCons (gVar 2) gNil))) (gVar 2)))))
def g__law_two_right (W : WD) (R : Er → Prop) : GS :=
  (gSeq (gSetT [2, 3] (gTup (gCons (gC .non) (gCons (gC .non) gNil))))
    (gSeq (gIfS (gNotT (gTru (gCall sp__law_is_golden W R (gCons (gVar 0) gNil)))) (gSet 2 (gTup (gCons (gC (.str "number")) (gCons (gVar 0) gNil)))) (gIfS (gNotT (gTru (gCall sp__law_is_golden W R (gCons (gVar 1) gNil)))) (gSet 2 (gTup (gCons (gC (.str "number")) (gCons (gVar 1) gNil)))) (gIfS (gAndT (gB (gBin eqD (gBin ixD (gVar 1) (gC (.int 0))) (gC (.int 0)))) (gB (gBin eqD (gBin ixD (gVar 1) (gC (.int 1))) (gC (.int 0))))) (gSet 3 (gTup (gCons (gC (.str "zero")) (gCons (gC (.bl true)) gNil)))) gSkip)))
    (gSeq (gSetL 4 (gLst (gCons (gLam sp__law_refused W (fun R => (gCall sp_plus W R (gCons (gVar 0) (gCons (gVar 1) gNil))))) gNil)))
    (gSeq (gApp 4 (gLam sp__law_refused W (fun R => (gCall sp_minus W R (gCons (gVar 0) (gCons (gVar 1) gNil))))))
    (gSeq (gApp 4 (gLam sp__law_refused W (fun R => (gCall sp_times W R (gCons (gVar 0) (gCons (gVar 1) gNil))))))
    (gSeq (gApp 4 (gLam sp__law_refused W (fun R => (gCall sp_is_below W R (gCons (gVar 0) (gCons (gVar 1) gNil))))))
    (gSeq (gApp 4 (gLam sp__law_refused W (fun R => (gCall sp_are_equal W R (gCons (gVar 0) (gCons (gVar 1) gNil))))))
    (gSeq (gApp 4 (gLam sp__law_refused W (fun R => (gCallK sp_plus 0 2 [1, 0] W R gNil (gCons (gVar 1) (gCons (gVar 0) gNil))))))
    (gSeq (gApp 4 (gLam sp__law_refused W (fun R => (gCallK sp_minus 0 2 [1, 0] W R gNil (gCons (gVar 1) (gCons (gVar 0) gNil))))))
    (gSeq (gApp 4 (gLam sp__law_refused W (fun R => (gCallK sp_times 0 2 [1, 0] W R gNil (gCons (gVar 1) (gCons (gVar 0) gNil))))))
    (gSeq (gApp 4 (gLam sp__law_refused W (fun R => (gCallK sp_is_below 0 2 [1, 0] W R gNil (gCons (gVar 1) (gCons (gVar 0) gNil))))))
    (gSeq (gApp 4 (gLam sp__law_refused W (fun R => (gCallK sp_are_equal 0 2 [1, 0] W R gNil (gCons (gVar 1) (gCons (gVar 0) gNil))))))
    (gSeq (gSetL 5 (gLst (gCons (gLam sp__law_refused W (fun R => (gCall sp_quotient W R (gCons (gVar 0) (gCons (gVar 1) gNil))))) gNil)))
    (gSeq (gApp 5 (gLam sp__law_refused W (fun R => (gCallK sp_quotient 0 2 [1, 0] W R gNil (gCons (gVar 1) (gCons (gVar 0) gNil))))))
    (gFz 5 (gFz 4 (gRet (gAnd (gCall sp__law_same W R (gCons (gVar 4) (gCons (gBin mulD (gFrz (gLst (gCons (gVar 2) gNil))) (gC (.int 10))) gNil))) (gCall sp__law_same W R (gCons (gVar 5) (gCons (gBin mulD (gFrz (gLst (gCons (gIf (gB (gBin (isD true) (gVar 2) (gC .non))) (gVar 2) (gVar 3)) gNil))) (gC (.int 2))) gNil)))))))))))))))))))))
def g__law_is_floor_refused (W : WD) (R : Er → Prop) : GS :=
  (gSeq (gSetL 1 (gLst (gCons (gLam sp__law_refused W (fun R => (gCall sp_plus W R (gCons (gVar 0) (gCons (gTup (gCons (gC (.int 1)) (gCons (gC (.int 0)) (gCons (gC (.int 1)) gNil)))) gNil))))) gNil)))
    (gSeq (gApp 1 (gLam sp__law_refused W (fun R => (gCall sp_quotient W R (gCons (gTup (gCons (gC (.int 0)) (gCons (gC (.int 0)) (gCons (gC (.int 1)) gNil)))) (gCons (gVar 0) gNil))))))
    (gSeq (gApp 1 (gLam sp__law_refused W (fun R => (gCall sp_sign W R (gCons (gVar 0) gNil)))))
    (gSeq (gApp 1 (gLam sp__law_refused W (fun R => (gCallK sp_is_below 0 2 [1, 0] W R gNil (gCons (gVar 0) (gCons (gTup (gCons (gC (.int 2)) (gCons (gC (.int 1)) (gCons (gC (.int 1)) gNil)))) gNil))))))
    (gSeq (gFz 1 (gFor (gIter (gVar 1)) (ggName 2) (gIfS (gOrT (gB (gBin (isD false) (gVar 2) (gC .non))) (gOrT (gB (gBin neD (gBin ixD (gVar 2) (gC (.int 0))) (gC (.str "number")))) (gOrT (gNotT (gTru (gIsO knownO "Floor" (gBin ixD (gVar 2) (gC (.int 1)))))) (gNotT (gB (gBin (eqX eqsO W) (gBin ixD (gVar 2) (gC (.int 1))) (gVar 0))))))) (gRet (gC (.bl false))) gSkip)))
    (gRet (gCall sp__law_same W R (gCons (gTup (gCons (gCall sp_is_golden W R (gCons (gVar 0) gNil)) (gCons (gCall sp_is_golden W R (gCons (gTup (gCons (gVar 0) (gCons (gC (.int 0)) (gCons (gC (.int 1)) gNil)))) gNil)) gNil))) (gCons (gTup (gCons (gC (.bl false)) (gCons (gC (.bl false)) gNil))) gNil)))))))))
def g__law_is_great_right (W : WD) (R : Er → Prop) : GS :=
  (gSeq (gSet 1 (gBlt intB (gCons (gBin repS (gC (.str "9")) (gBin subD (gC (.int 900)) (gCall sp__law_draw W R (gCons (gVar 0) (gCons (gC (.int 9)) gNil))))) gNil)))
    (gSeq (gSet 2 (gTup (gCons (gVar 1) (gCons (gBin mulD (gVar 1) (gBin subD (gC (.int 1)) (gCall sp__law_draw W R (gCons (gVar 0) (gCons (gC (.int 3)) gNil))))) (gCons (gC (.int 1)) gNil)))))
    (gSeq (gFor (gRng1 (gCons (gC (.int 3)) gNil)) (ggName 3) (gSet 2 (gCall sp_times W R (gCons (gVar 2) (gCons (gVar 2) gNil)))))
    (gSeq (gIfS (gOrT (gB (gBin (isD true) (gCall sp_is_golden W R (gCons (gVar 2) gNil)) (gC (.bl true)))) (gB (gBin (isD true) (gLam sp__law_refused W (fun R => (gCall sp_plus W R (gCons (gVar 2) (gCons (gTup (gCons (gC (.int 1)) (gCons (gC (.int 0)) (gCons (gC (.int 1)) gNil)))) gNil))))) (gC .non)))) (gRet (gC (.bl false))) gSkip)
    (gSeq (gFor (gIter (gTup (gCons (gSl slD (gVar 2) gNoPart (gPart (gC (.int 2)))) (gCons (gBin addD (gSl slD (gVar 2) gNoPart (gPart (gC (.int 2)))) (gTup (gCons (gC (.int 0)) gNil))) (gCons (gBin addD (gSl slD (gVar 2) gNoPart (gPart (gC (.int 2)))) (gTup (gCons (gUn negD (gC (.int 1))) gNil))) (gCons (gBin addD (gVar 2) (gTup (gCons (gC (.int 1)) gNil))) (gCons (gTup (gCons (gBin ixD (gVar 2) (gC (.int 0))) (gCons (gC .non) (gCons (gC (.int 1)) gNil)))) gNil))))))) (ggName 4) (gSeq (gIfS (gB (gBin (isD true) (gCall sp_is_golden W R (gCons (gVar 4) gNil)) (gC (.bl false)))) (gRet (gC (.bl false))) gSkip)
    (gSeq (gSet 5 (gLam sp__law_refused W (fun R => (gCall sp_plus W R (gCons (gVar 4) (gCons (gTup (gCons (gC (.int 1)) (gCons (gC (.int 0)) (gCons (gC (.int 1)) gNil)))) gNil))))))
    (gSeq (gSet 6 (gLam sp__law_refused W (fun R => (gCallK sp_times 0 2 [1, 0] W R gNil (gCons (gVar 4) (gCons (gVar 2) gNil))))))
    (gIfS (gOrT (gB (gBin neD (gVar 5) (gTup (gCons (gC (.str "number")) (gCons (gVar 4) gNil))))) (gB (gBin neD (gVar 6) (gTup (gCons (gC (.str "number")) (gCons (gVar 4) gNil)))))) (gRet (gC (.bl false))) gSkip)))))
    (gRet (gC (.bl true))))))))
def g__law_one_right (W : WD) (R : Er → Prop) : GS :=
  (gSeq (gSet 1 (gIf (gTru (gCall sp__law_is_golden W R (gCons (gVar 0) gNil))) (gC .non) (gTup (gCons (gC (.str "number")) (gCons (gVar 0) gNil)))))
    (gSeq (gSetL 2 (gLst (gCons (gLam sp__law_refused W (fun R => (gCall sp_reduced W R (gCons (gVar 0) gNil)))) gNil)))
    (gSeq (gApp 2 (gLam sp__law_refused W (fun R => (gCall sp_sign W R (gCons (gVar 0) gNil)))))
    (gSeq (gApp 2 (gLam sp__law_refused W (fun R => (gCall sp_integer_below W R (gCons (gVar 0) gNil)))))
    (gSeq (gApp 2 (gLam sp__law_refused W (fun R => (gCall sp_integer_above W R (gCons (gVar 0) gNil)))))
    (gSeq (gApp 2 (gLam sp__law_refused W (fun R => (gCall sp_is_whole W R (gCons (gVar 0) gNil)))))
    (gSeq (gApp 2 (gLam sp__law_refused W (fun R => (gCall sp_conjugate W R (gCons (gVar 0) gNil)))))
    (gSeq (gApp 2 (gLam sp__law_refused W (fun R => (gCall sp_number_text W R (gCons (gVar 0) gNil)))))
    (gSeq (gApp 2 (gLam sp__law_refused W (fun R => (gCallK sp_reduced 0 1 [0] W R gNil (gCons (gVar 0) gNil)))))
    (gSeq (gApp 2 (gLam sp__law_refused W (fun R => (gCallK sp_sign 0 1 [0] W R gNil (gCons (gVar 0) gNil)))))
    (gSeq (gApp 2 (gLam sp__law_refused W (fun R => (gCallK sp_integer_below 0 1 [0] W R gNil (gCons (gVar 0) gNil)))))
    (gSeq (gApp 2 (gLam sp__law_refused W (fun R => (gCallK sp_integer_above 0 1 [0] W R gNil (gCons (gVar 0) gNil)))))
    (gSeq (gApp 2 (gLam sp__law_refused W (fun R => (gCallK sp_is_whole 0 1 [0] W R gNil (gCons (gVar 0) gNil)))))
    (gSeq (gApp 2 (gLam sp__law_refused W (fun R => (gCallK sp_conjugate 0 1 [0] W R gNil (gCons (gVar 0) gNil)))))
    (gSeq (gApp 2 (gLam sp__law_refused W (fun R => (gCallK sp_number_text 0 1 [0] W R gNil (gCons (gVar 0) gNil)))))
    (gFz 2 (gRet (gAnd (gCall sp__law_same W R (gCons (gVar 2) (gCons (gBin mulD (gFrz (gLst (gCons (gVar 1) gNil))) (gC (.int 14))) gNil))) (gCall sp__law_same W R (gCons (gTup (gCons (gCall sp_is_golden W R (gCons (gVar 0) gNil)) (gCons (gCallK sp_is_golden 0 1 [0] W R gNil (gCons (gVar 0) gNil)) gNil))) (gCons (gTup (gCons (gBin (isD false) (gVar 1) (gC .non)) (gCons (gBin (isD false) (gVar 1) (gC .non)) gNil))) gNil)))))))))))))))))))))
def g_law (W : WD) (R : Er → Prop) : GS :=
  (gSeq (gFor (gRng1 (gCons (gC (.int 8)) gNil)) (ggName 2) (gSeq (gPar [4, 5] (gCons (gCall sp__law_value W R (gCons (gVar 1) gNil)) (gCons (gCall sp__law_value W R (gCons (gVar 1) gNil)) gNil)))
    (gSeq (gIfS (gB (gBin eqD (gCall sp__law_draw W R (gCons (gVar 1) (gCons (gC (.int 6)) gNil))) (gC (.int 0)))) (gSet 5 (gVar 4)) gSkip)
    (gSeq (gSet 6 (gBlt reprB (gCons (gTup (gCons (gVar 4) (gCons (gVar 5) gNil))) gNil)))
    (gIfS (gOrT (gNotT (gTru (gCall sp__law_two_right W R (gCons (gVar 4) (gCons (gVar 5) gNil))))) (gOrT (gNotT (gTru (gCall sp__law_one_right W R (gCons (gVar 4) gNil)))) (gNotT (gTru (gCall sp__law_same W R (gCons (gBlt reprB (gCons (gTup (gCons (gVar 4) (gCons (gVar 5) gNil))) gNil)) (gCons (gVar 6) gNil))))))) (gRet (gC (.bl false))) gSkip)))))
    (gSeq (gSet 3 (gCall sp_power W R (gCons (gBin subD (gC (.int 250)) (gCall sp__law_draw W R (gCons (gVar 1) (gCons (gC (.int 50)) gNil)))) gNil)))
    (gSeq (gIfS (gOrT (gNotT (gTru (gCall sp__law_one_right W R (gCons (gVar 3) gNil)))) (gOrT (gNotT (gTru (gCall sp__law_one_right W R (gCons (gBin addD (gSl slD (gVar 3) (gPart (gC (.int 1))) gNoPart) (gTup (gCons (gUn negD (gBin ixD (gVar 3) (gC (.int 0)))) gNil))) gNil)))) (gNotT (gTru (gCall sp__law_one_right W R (gCons (gSl slD (gVar 3) gNoPart (gPart (gC (.int 2)))) gNil)))))) (gRet (gC (.bl false))) gSkip)
    (gSeq (gIfS (gNotT (gTru (gCall sp__law_is_great_right W R (gCons (gVar 1) gNil)))) (gRet (gC (.bl false))) gSkip)
    (gRet (gCall sp__law_is_floor_refused W R (gCons (gMake sp_Floor [.tup [.int 0, .int 0, .int 0, .int 0, .int 0]] 2 0 [0, 1, 2] W R (gCons (gTup (gCons (gBin addD (gBin mulD (gC (.int 3)) (gCall sp__law_integer W R (gCons (gVar 1) (gCons (gC (.int 2)) gNil)))) (gC (.int 1))) (gCons (gC (.int 0)) (gCons (gC (.int 3)) gNil)))) (gCons (gTup (gCons (gC (.int 1)) (gCons (gBin mulD (gC (.int 3)) (gCall sp__law_integer W R (gCons (gVar 1) (gCons (gC (.int 2)) gNil)))) (gCons (gC (.int 3)) gNil)))) gNil)) gNil) gNil)))))))
theorem len_is_integer : ∀ W ds Q R, sp_is_integer W ds Q R → ds.length = 1 := by
  rintro W ds Q R ⟨x, rfl, _⟩
  rfl
theorem law_is_integer : ∀ W ds Q R, sp_is_integer W ds Q R → g_is_integer W R (endsD Q) (startD 1 ds) := by
  rintro W ds Q R ⟨x, rfl, h, q⟩
  simp [g_is_integer, startD, isiX, h, show knownT "int" = true by decide, show knownT "bool" = true by decide]
  cases x <;> simp_all [tyD, isiB, isTb, isI]
theorem len_normal : ∀ W ds Q R, sp_normal W ds Q R → ds.length = 3 := by
  rintro W ds Q R ⟨a, b, d, rfl, _⟩
  rfl
theorem law_normal : ∀ W ds Q R, sp_normal W ds Q R → g_normal W R (endsD Q) (startD 4 ds) := by
  rintro W ds Q R ⟨a, b, d, rfl, hd, h0, q⟩
  have hn := cdv_ne (a := a) (b := b) h0
  have hs : (cdv a b d).natAbs.log2 < 9000 := Nat.lt_of_le_of_lt (cdv_sz (a := a) (b := b) hd h0).log (by decide)
  have pp : ∀ i, DivPl i (cdv a b d) := fun i => .inl hs
  unfold red cdv at q
  unfold cdv at hn pp
  by_cases h : d < 0
  · rw [if_pos h] at q hn pp
    simp [g_normal, startD, endsD, gcdD, h]
    exact ⟨by simpa using hn, by simpa using pp a, by simpa using hn, by simpa using pp b, by simpa using hn, by simpa using pp d, by simpa using q⟩
  · rw [if_neg h] at q hn pp
    simp [g_normal, startD, endsD, gcdD, h]
    exact ⟨by simpa using hn, by simpa using pp a, by simpa using hn, by simpa using pp b, by simpa using hn, by simpa using pp d, by simpa using q⟩
theorem len_pair_sign : ∀ W ds Q R, sp_pair_sign W ds Q R → ds.length = 2 := by
  rintro W ds Q R ⟨a, b, rfl, _⟩
  rfl
theorem law_pair_sign : ∀ W ds Q R, sp_pair_sign W ds Q R → g_pair_sign W R (endsD Q) (startD 4 ds) := by
  rintro W ds Q R ⟨a, b, rfl, ha, hb, q⟩
  obtain ⟨m1, m2, m3, m4⟩ := pair_sz ha hb
  simp [g_pair_sign, startD, m1, m2, m3, m4]
  unfold psg at q
  generalize 2 * a + b = x at q ⊢
  generalize 5 * b * b = y at q ⊢
  generalize x * x = z at q ⊢
  repeat' split
  all_goals simp_all
  all_goals first | omega | (split at q <;> first | exact q | omega) | skip
theorem len_negative : ∀ W ds Q R, sp_negative W ds Q R → ds.length = 1 := by
  rintro W ds Q R ⟨a, b, m, rfl, _⟩
  rfl
theorem law_negative : ∀ W ds Q R, sp_negative W ds Q R → g_negative W R (endsD Q) (startD 1 ds) := by
  rintro W ds Q R ⟨a, b, m, rfl, q⟩
  simp [g_negative, startD, q]
theorem len_times_g : ∀ W ds Q R, sp_times_g W ds Q R → ds.length = 1 := by
  rintro W ds Q R ⟨a, b, m, rfl, _⟩
  rfl
theorem law_times_g : ∀ W ds Q R, sp_times_g W ds Q R → g_times_g W R (endsD Q) (startD 1 ds) := by
  rintro W ds Q R ⟨a, b, m, rfl, q⟩
  simp [g_times_g, startD, q]
theorem len_times_less : ∀ W ds Q R, sp_times_less W ds Q R → ds.length = 1 := by
  rintro W ds Q R ⟨a, b, m, rfl, _⟩
  rfl
theorem law_times_less : ∀ W ds Q R, sp_times_less W ds Q R → g_times_less W R (endsD Q) (startD 1 ds) := by
  rintro W ds Q R ⟨a, b, m, rfl, q⟩
  simp [g_times_less, startD, q]
theorem len_is_whole_number : ∀ W ds Q R, sp_is_whole_number W ds Q R → ds.length = 1 := by
  rintro W ds Q R ⟨a, b, m, rfl, _⟩
  rfl
theorem law_is_whole_number : ∀ W ds Q R, sp_is_whole_number W ds Q R → g_is_whole_number W R (endsD Q) (startD 1 ds) := by
  rintro W ds Q R ⟨a, b, m, rfl, h, q⟩
  have h0 : 0 < m := by omega
  simp [g_is_whole_number, startD, h0]
  unfold wholeB at q
  split <;> simp_all
theorem len_floor_integer : ∀ W ds Q R, sp_floor_integer W ds Q R → ds.length = 1 := by
  rintro W ds Q R ⟨a, b, m, rfl, _⟩
  rfl
theorem law_floor_integer : ∀ W ds Q R, sp_floor_integer W ds Q R → g_floor_integer W R (endsD Q) (startD 5 ds) := by
  rintro W ds Q R ⟨a, b, m, rfl, h, q⟩
  obtain ⟨m1, m2, m3, m4, p0, p1, p2, p3⟩ := flr_sz h
  have p4 : 0 < 2 * m := by omega
  unfold flr at q
  by_cases hb : 0 ≤ b
  · simp_all [g_floor_integer, startD]
  · rw [if_neg hb] at q
    simp [g_floor_integer, startD, m1, m2, m3, m4, p0, p1, p2, p3, p4, hb, q]
theorem len__law_same : ∀ W ds Q R, sp__law_same W ds Q R → ds.length = 2 := by
  rintro W ds Q R ⟨x, rfl, _⟩
  rfl
theorem law__law_same : ∀ W ds Q R, sp__law_same W ds Q R → g__law_same W R (endsD Q) (startD 2 ds) := by
  rintro W ds Q R ⟨x, rfl, h, q⟩
  simp [g__law_same, startD, h.1, h.2.1, h.2.2.1, h.len, q]
theorem len_is_number : ∀ W ds Q R, sp_is_number W ds Q R → ds.length = 1 := by
  rintro W ds Q R ⟨x, rfl, _⟩
  rfl
theorem law_is_number : ∀ W ds Q R, sp_is_number W ds Q R → g_is_number W R (endsD Q) (startD 1 ds) := by
  rintro W ds Q R ⟨x, rfl, h, q⟩
  simp [g_is_number, startD, isiX, h.1, show knownT "tuple" = true by decide]
  cases x with
  | tup xs =>
    have hx := h.2 xs rfl
    simp [isiB, tyD, isTb, lenD]
    by_cases hl : xs.length = 3
    · obtain ⟨a, b, c, rfl⟩ := len3 hl
      simp at hx
      simp
      refine ⟨a, rfl, hx.1, ?_⟩
      cases h1 : isI a
      · simpa [isNum, h1] using q
      · simp
        refine ⟨b, rfl, hx.2.1, ?_⟩
        cases h2 : isI b
        · simpa [isNum, h1, h2] using q
        · simp
          refine ⟨c, rfl, hx.2.2, ?_⟩
          cases h3 : isI c
          · simpa [isNum, h1, h2, h3] using q
          · obtain ⟨i, rfl⟩ := isI_n h3
            have en : isNum (.tup [a, b, .int i]) = decide (1 ≤ i) := by
              show (isI a && isI b && true && decide (1 ≤ i)) = _
              rw [h1, h2]
              rfl
            rw [en] at q
            simpa [geD, isI] using q
    · have hl2 : ¬ ((xs.length : Int) = 3) := by omega
      rw [num_len hl] at q
      simpa [hl, hl2] using q
  | _ => simpa [isiB, tyD, isTb, isNum] using q
theorem len_sign_of : ∀ W ds Q R, sp_sign_of W ds Q R → ds.length = 1 := by
  rintro W ds Q R ⟨a, b, m, rfl, _⟩
  rfl
theorem law_sign_of : ∀ W ds Q R, sp_sign_of W ds Q R → g_sign_of W R (endsD Q) (startD 1 ds) := by
  rintro W ds Q R ⟨a, b, m, rfl, ha, hb, q⟩
  simp [g_sign_of, startD]
  exact ⟨a, b, rfl, ha, hb, q⟩
theorem len_compared : ∀ W ds Q R, sp_compared W ds Q R → ds.length = 2 := by
  rintro W ds Q R ⟨N, a, b, m, c, d, n, rfl, _⟩
  rfl
theorem law_compared : ∀ W ds Q R, sp_compared W ds Q R → g_compared W R (endsD Q) (startD 2 ds) := by
  rintro W ds Q R ⟨N, a, b, m, c, d, n, rfl, h, k, hN, q⟩
  have e : N + N < 1000000 := by omega
  have m1 : MulOk a n := h.1.ok k.2.2.1 e
  have m2 : MulOk c m := k.1.ok h.2.2.1 e
  have m3 : MulOk b n := h.2.1.ok k.2.2.1 e
  have m4 : MulOk d m := k.2.1.ok h.2.2.1 e
  simp [g_compared, startD, m1, m2, m3, m4]
  exact ⟨_, _, rfl, ((h.1.mul k.2.2.1).sub (k.1.mul h.2.2.1)).mono (by omega), ((h.2.1.mul k.2.2.1).sub (k.2.1.mul h.2.2.1)).mono (by omega), q⟩
theorem len_added : ∀ W ds Q R, sp_added W ds Q R → ds.length = 2 := by
  rintro W ds Q R ⟨n, m, a, b, d, c, e, f, rfl, _⟩
  rfl
theorem law_added : ∀ W ds Q R, sp_added W ds Q R → g_added W R (endsD Q) (startD 3 ds) := by
  rintro W ds Q R ⟨n, m, a, b, d, c, e, f, rfl, h, k, l, sd, sf, q⟩
  obtain ⟨o1, o2, o3, o4, o5, _⟩ := h.ok k (by omega)
  have z4 := (add_sz h k).2.2.2
  simp [g_added, startD, o1, o2, o3, o4, o5]
  exact ⟨_, _, _, rfl, (sd.mul sf).mono (by decide), by omega, q⟩
theorem len_multiplied : ∀ W ds Q R, sp_multiplied W ds Q R → ds.length = 2 := by
  rintro W ds Q R ⟨n, m, a, b, d, c, e, f, rfl, _⟩
  rfl
theorem law_multiplied : ∀ W ds Q R, sp_multiplied W ds Q R → g_multiplied W R (endsD Q) (startD 6 ds) := by
  rintro W ds Q R ⟨n, m, a, b, d, c, e, f, rfl, h, k, l, sd, sf, q⟩
  obtain ⟨_, _, _, _, o5, o6, o7, o8, o9⟩ := h.ok k (by omega)
  have z4 := (mul_sz h k).2.2.2
  simp [g_multiplied, startD, o5, o6, o7, o8, o9]
  exact ⟨_, _, _, rfl, (sd.mul sf).mono (by decide), by omega, q⟩
theorem len_ceiling_integer : ∀ W ds Q R, sp_ceiling_integer W ds Q R → ds.length = 1 := by
  rintro W ds Q R ⟨a, b, m, rfl, _⟩
  rfl
theorem law_ceiling_integer : ∀ W ds Q R, sp_ceiling_integer W ds Q R → g_ceiling_integer W R (endsD Q) (startD 1 ds) := by
  rintro W ds Q R ⟨a, b, m, rfl, h, q⟩
  simp [g_ceiling_integer, startD]
  exact ⟨a, b, m, rfl, _, _, _, rfl, h.neg, q⟩
theorem len__law_pick : ∀ W ds Q R, sp__law_pick W ds Q R → ds.length = 2 := by
  rintro W ds Q R ⟨d, l, xs, _, rfl | rfl, _⟩ <;> rfl
theorem law__law_pick : ∀ W ds Q R, sp__law_pick W ds Q R → g__law_pick W R (endsD Q) (startD 2 ds) := by
  rintro W ds Q R ⟨d, l, xs, rfl, rfl | rfl, h1, h2, q⟩
  all_goals
    simp [g__law_pick, startD, lenD]
    refine ⟨d, l, _, rfl, rfl, by omega, by exact_mod_cast h2, fun r hr0 hr1 => ?_⟩
    have hr : r.toNat < xs.length := by omega
    refine ⟨xs[r.toNat], ?_, q _ (List.getElem_mem hr)⟩
    simp [atI, ixN, hr0, hr1, hr]
theorem len__law_integer : ∀ W ds Q R, sp__law_integer W ds Q R → ds.length = 2 := by
  rintro W ds Q R ⟨d, l, n, _, rfl, _⟩
  rfl
theorem int_loop (d l : Addr) (R : Er → Prop) (E : Ed) (y z u : SV) (N : Nat) (hN : N ≤ 200) (hE : ∀ a v, Sz (20 * N) a → E.nx [.d (dkD d), y, z, u, .d (.int a), v]) : ∀ (ds : List D) (a : Int) (M : Nat) (v : SV), 0 ≤ a → a < 10 ^ (6 * M) → M + ds.length ≤ N →
    forG (ggName 5) (gSet 4 (gBin addD (gBin mulD (gVar 4) (gBin powD (gC (.int 10)) (gC (.int 6)))) (gCall sp__law_draw (some (d, l)) R (gCons (gVar 0) (gCons (gBin powD (gC (.int 10)) (gC (.int 6))) gNil))))) ds E [.d (dkD d), y, z, u, .d (.int a), v]
  | [], a, M, v, h0, h1, h3 => hE a v ((ten_sz h0 h1).mono (by simp at h3; omega))
  | x :: ds, a, M, v, h0, h1, h3 => by
    have m1 : ND.MulOk a 1000000 := (ten_sz h0 h1).ok (n := 20 * M) (m := 20) (by decide) (by simp at h3; omega)
    simp [forG, m1]
    refine dr (by decide) (by decide) fun r r0 r1 => ?_
    simp
    refine int_loop d l R E y z u N hN hE ds _ (M + 1) (.d x) ?_ ?_ (by simp at h3; omega)
    · omega
    · have e : (10 : Int) ^ (6 * (M + 1)) = 10 ^ (6 * M) * 1000000 := by
        rw [Nat.mul_add, Int.pow_add]
        rfl
      rw [e]
      omega
theorem law__law_integer : ∀ W ds Q R, sp__law_integer W ds Q R → g__law_integer W R (endsD Q) (startD 6 ds) := by
  rintro W ds Q R ⟨d, l, n, rfl, rfl, h1, h2, q⟩
  have m1 : ND.MulOk 6 (n : Int) := (Sz.small (by decide) (by decide)).ok (sz_nat (by omega)) (by decide)
  simp [g__law_integer, startD, m1]
  refine dr (by decide) (by decide) fun way w0 w1 => ?_
  refine dr (by decide) (by decide) fun fc f0 f1 => ?_
  have mf : ND.MulOk 2 fc := (Sz.small (by decide) (by decide)).ok (Sz.small (by omega) (by omega)) (by decide)
  have sf : Sz 2 (1 - 2 * fc) := by
    show (1 - 2 * fc).natAbs < 2 ^ 2
    omega
  simp [mf]
  generalize 1 - 2 * fc = fac at sf
  split
  · have wc : way = 0 ∨ way = 1 ∨ way = 2 ∨ way = 3 ∨ way = 4 ∨ way = 5 := by omega
    have fin : ∀ k : Int, 0 < k → k ≤ 1000 → sp__law_draw (some (d, l)) [dkD d, .int k] (fun y => mulD (.int fac) y Q) R := fun k k0 k1 => by
      refine dr k0 (by rw [e62]; omega) fun r r0 r1 => ?_
      have sr : Sz 20 r := Sz.small (by omega) (by omega)
      simp
      exact ⟨sf.ok sr (by decide), q _ ((sf.mul sr).mono (by omega))⟩
    rcases wc with h | h | h | h | h | h <;> subst h <;> simp [ixD, atI, ixN] <;> exact fin _ (by decide) (by decide)
  · split
    · obtain ⟨i, e1, e2, i0, i1⟩ := nine_text (k := 6 * n) (by omega) (by omega)
      have ek : (6 * (n : Int)) = ((6 * n : Nat) : Int) := by simp
      rw [ek]
      refine ⟨by omega, ?_, by decide, i, e1, e2, ?_⟩
      · have : (Str.ofString "9").length = 1 := by decide
        rw [this]
        rw [Int.toNat_natCast, Nat.one_mul]
        exact Nat.le_trans (by omega : 6 * n ≤ 1020) (by decide : 1020 ≤ sizeLine)
      · refine dr (by decide) (by decide) fun r r0 r1 => ?_
        have si : Sz (20 * n + 6) (i - r) := by
          have s1 := ten_sz i0 i1
          have s2 : Sz 20 r := Sz.small (by omega) (by omega)
          exact ((s1.mono (by omega : 20 * n ≤ 20 * n + 0)).sub (s2.mono (by omega))).mono (by omega)
        simp
        exact ⟨sf.ok si (by omega), q _ ((sf.mul si).mono (by omega))⟩
    · refine dr (by omega) (by rw [e62]; omega) fun r r0 r1 => ?_
      simp
      refine ⟨by omega, by omega, ?_⟩
      refine int_loop d l R _ _ _ _ n (by omega) (fun a v sa => ?_) _ 0 0 _ (by decide) (by decide) (by simp [ND.intsFrom]; omega)
      simp
      exact ⟨sf.ok sa (by omega), q _ ((sf.mul sa).mono (by omega))⟩
theorem len_taken : ∀ W ds Q R, sp_taken W ds Q R → ds.length = 2 := by
  rintro W ds Q R ⟨n, m, a, b, d, c, e, f, rfl, _⟩
  rfl
theorem law_taken : ∀ W ds Q R, sp_taken W ds Q R → g_taken W R (endsD Q) (startD 2 ds) := by
  rintro W ds Q R ⟨n, m, a, b, d, c, e, f, rfl, h, k, l, sd, sf, q⟩
  simp [g_taken, startD]
  exact ⟨c, e, f, rfl, n, m, a, b, d, -c, -e, f, rfl, h, k.neg, l, sd, sf, q⟩
theorem len_divided : ∀ W ds Q R, sp_divided W ds Q R → ds.length = 2 := by
  rintro W ds Q R ⟨n, m, a, b, d, c, e, f, rfl, _⟩
  rfl
theorem law_divided : ∀ W ds Q R, sp_divided W ds Q R → g_divided W R (endsD Q) (startD 6 ds) := by
  rintro W ds Q R ⟨n, m, a, b, d, c, e, f, rfl, h, k, l, m2, sd, h0, q⟩
  obtain ⟨z1, z2, z3, z4⟩ := quo_sz h k
  have hN := norm_ne h0
  have hd := h.2.2.2
  have e1 : a * (c + e) + b * -e = a * (c + e) - b * e := by rw [Int.mul_neg]; rfl
  have e2 : a * -e + b * (c + e) + b * -e = b * c - a * e := by
    rw [Int.mul_neg, Int.mul_neg, Int.mul_add]
    omega
  have o1 : MulOk c c := k.1.ok k.1 (by omega)
  have o2 : MulOk c e := k.1.ok k.2.1 (by omega)
  have o3 : MulOk e e := k.2.1.ok k.2.1 (by omega)
  have o4 : MulOk (a * (c + e) - b * e) f := z1.ok k.2.2.1 (by omega)
  have o5 : MulOk (b * c - a * e) f := z2.ok k.2.2.1 (by omega)
  have o6 : MulOk (c * c + c * e - e * e) d := z3.ok h.2.2.1 (by omega)
  have s1 : Sz 4400 (1 : Int) := Sz.mono (n := 20) (by decide) (by decide)
  have k2 : Num (m + 1) (c + e) (-e) 1 := ⟨z4, k.2.1.neg.mono (by omega), by
    show (1 : Int).natAbs < 2 ^ (m + 1)
    have : 1 ≤ 2 ^ m := Nat.one_le_two_pow
    rw [Nat.pow_succ]
    have : (1 : Int).natAbs = 1 := rfl
    omega, by decide⟩
  simp [g_divided, startD]
  refine ⟨n, m + 1, a, b, 1, c + e, -e, 1, rfl, h.one, k2, by omega, s1, s1, ?_⟩
  rw [e1, e2, show (1 : Int) * 1 = 1 by decide, red_one]
  simp [o1, o2, o3, o4, o5, o6]
  exact ⟨_, _, _, rfl, (z3.mul sd).mono (by omega), Int.mul_ne_zero hN (by omega), q⟩
theorem len_is_golden : ∀ W ds Q R, sp_is_golden W ds Q R → ds.length = 1 := len_is_number
theorem law_is_golden : ∀ W ds Q R, sp_is_golden W ds Q R → g_is_golden W R (endsD Q) (startD 1 ds) := by
  rintro W ds Q R ⟨x, rfl, h, q⟩
  simp [g_is_golden, startD]
  exact ⟨x, rfl, h, q⟩
theorem len_need_numbers : ∀ W ds Q R, sp_need_numbers W ds Q R → ds.length = 1 := by
  rintro W ds Q R ⟨xs, rfl, _⟩
  rfl
theorem need_loop (W : WD) (R : Er → Prop) (E : Ed) (t : SV) : ∀ (xs : List D) (v : SV), (∀ x ∈ xs, Ty1 knownO x) → (∀ x, xs.find? (fun x => !isNum x) = some x → R (bad x)) → (xs.find? (fun x => !isNum x) = none → ∀ v, E.nx [t, v]) →
    forG (ggName 1) (gIfS (gNotT (gTru (gCall sp_is_number W R (gCons (gVar 1) gNil)))) (gRaise "BadNumber" "thing" (gVar 1) R) gSkip) xs E [t, v]
  | [], v, _, _, hE => hE rfl v
  | x :: xs, v, h, hR, hE => by
    simp [forG]
    refine ⟨x, rfl, h x List.mem_cons_self, ?_⟩
    simp only [truthD]
    cases hn : isNum x
    · simpa using hR x (by simp [hn])
    · simp
      refine need_loop W R E t xs _ (fun y hy => h y (List.mem_cons_of_mem _ hy)) (fun y hy => hR y (by simp [hn, hy])) fun hf => hE (by simp [hn, hf])
theorem law_need_numbers : ∀ W ds Q R, sp_need_numbers W ds Q R → g_need_numbers W R (endsD Q) (startD 2 ds) := by
  rintro W ds Q R ⟨xs, rfl, h, hR, q⟩
  simp [g_need_numbers, startD]
  exact need_loop W R _ _ xs _ h hR fun hf _ => q hf
theorem need1 {W : WD} {R : Er → Prop} {x : D} {K : D → Prop} (h : Ty1 knownO x) (hR : isNum x = false → R (bad x)) (k : isNum x = true → K .non) : sp_need_numbers W [.tup [x]] K R :=
  ⟨_, rfl, fun y m => by rw [List.mem_singleton.mp m]; exact h, fun y hy => by
    cases hn : isNum x
    · simp [hn] at hy
      subst hy
      exact hR hn
    · simp [hn] at hy, fun hf => k (by
    cases hn : isNum x
    · simp [hn] at hf
    · rfl)⟩
theorem need2 {W : WD} {R : Er → Prop} {x y : D} {K : D → Prop} (h : Ty1 knownO x) (h' : Ty1 knownO y) (hR : isNum x = false → R (bad x)) (hR' : isNum x = true → isNum y = false → R (bad y)) (k : isNum x = true → isNum y = true → K .non) : sp_need_numbers W [.tup [x, y]] K R :=
  ⟨_, rfl, fun z m => by
    rcases List.mem_cons.mp m with e | m
    · rw [e]; exact h
    · rw [List.mem_singleton.mp m]; exact h', fun z hz => by
    cases hn : isNum x
    · simp [hn] at hz
      subst hz
      exact hR hn
    · cases hm : isNum y
      · simp [hn, hm] at hz
        subst hz
        exact hR' hn hm
      · simp [hn, hm] at hz, fun hf => by
    cases hn : isNum x
    · simp [hn] at hf
    · cases hm : isNum y
      · simp [hn, hm] at hf
      · exact k hn hm⟩
theorem len1 {n : Nat} : ∀ W ds Q R, sp1 n W ds Q R → ds.length = 1 := by
  rintro W ds Q R ⟨x, rfl, _⟩
  rfl
theorem len2 {n k : Nat} : ∀ W ds Q R, sp2 n k W ds Q R → ds.length = 2 := by
  rintro W ds Q R ⟨x, y, rfl, _⟩
  rfl
theorem len_reduced : ∀ W ds Q R, sp_reduced W ds Q R → ds.length = 1 := by
  rintro W ds Q R ⟨x, rfl, _⟩
  rfl
theorem law_reduced : ∀ W ds Q R, sp_reduced W ds Q R → g_reduced W R (endsD Q) (startD 1 ds) := by
  rintro W ds Q R ⟨x, rfl, h, hR, k⟩
  simp [g_reduced, startD]
  refine need1 h hR fun hn => ?_
  obtain ⟨⟨a, b, d, rfl, hN, hd⟩, q⟩ := k hn
  have h1 := hN.2.2.2
  simp
  refine ⟨a, b, d, rfl, hd.mono (by decide), by omega, ?_⟩
  obtain ⟨x, y, z, e, hz⟩ := red_num hN.1 hN.2.1 hN.2.2.1 (by omega)
  rw [e]
  exact q _ _ _ hz
theorem len_sign : ∀ W ds Q R, sp_sign W ds Q R → ds.length = 1 := len1
theorem law_sign : ∀ W ds Q R, sp_sign W ds Q R → g_sign W R (endsD Q) (startD 1 ds) := by
  rintro W ds Q R ⟨x, rfl, h, hR, k⟩
  simp [g_sign, startD]
  refine need1 h hR fun hn => ?_
  obtain ⟨⟨a, b, d, rfl, hN, hd⟩, q⟩ := k hn
  exact ⟨a, b, d, rfl, hN.1.mono (by decide), hN.2.1.mono (by decide), q _⟩
theorem len_integer_below : ∀ W ds Q R, sp_integer_below W ds Q R → ds.length = 1 := len1
theorem law_integer_below : ∀ W ds Q R, sp_integer_below W ds Q R → g_integer_below W R (endsD Q) (startD 1 ds) := by
  rintro W ds Q R ⟨x, rfl, h, hR, k⟩
  simp [g_integer_below, startD]
  refine need1 h hR fun hn => ?_
  obtain ⟨⟨a, b, d, rfl, hN, hd⟩, q⟩ := k hn
  exact ⟨a, b, d, rfl, hN.up (by decide), q _⟩
theorem len_integer_above : ∀ W ds Q R, sp_integer_above W ds Q R → ds.length = 1 := len1
theorem law_integer_above : ∀ W ds Q R, sp_integer_above W ds Q R → g_integer_above W R (endsD Q) (startD 1 ds) := by
  rintro W ds Q R ⟨x, rfl, h, hR, k⟩
  simp [g_integer_above, startD]
  refine need1 h hR fun hn => ?_
  obtain ⟨⟨a, b, d, rfl, hN, hd⟩, q⟩ := k hn
  exact ⟨a, b, d, rfl, hN.up (by decide), q _⟩
theorem len_is_whole : ∀ W ds Q R, sp_is_whole W ds Q R → ds.length = 1 := len1
theorem law_is_whole : ∀ W ds Q R, sp_is_whole W ds Q R → g_is_whole W R (endsD Q) (startD 1 ds) := by
  rintro W ds Q R ⟨x, rfl, h, hR, k⟩
  simp [g_is_whole, startD]
  refine need1 h hR fun hn => ?_
  obtain ⟨⟨a, b, d, rfl, hN, hd⟩, q⟩ := k hn
  exact ⟨a, b, d, rfl, hN.2.2.2, q _⟩
theorem len_conjugate : ∀ W ds Q R, sp_conjugate W ds Q R → ds.length = 1 := len1
theorem law_conjugate : ∀ W ds Q R, sp_conjugate W ds Q R → g_conjugate W R (endsD Q) (startD 1 ds) := by
  rintro W ds Q R ⟨x, rfl, h, hR, k⟩
  simp [g_conjugate, startD]
  refine need1 h hR fun hn => ?_
  obtain ⟨⟨a, b, d, rfl, hN, hd⟩, q⟩ := k hn
  have h1 := hN.2.2.2
  simp
  exact ⟨_, _, _, rfl, hd.mono (by decide), by omega, q _⟩
theorem len_number_text : ∀ W ds Q R, sp_number_text W ds Q R → ds.length = 1 := len1
theorem str_sz {i : Int} (h : Sz 2000 i) : i.natAbs < 10 ^ 4300 := Nat.lt_of_lt_of_le (show i.natAbs < 2 ^ 2000 from h) (by decide +kernel)
theorem slen (x y : Str) : (x ++ y).length = x.length + y.length := by
  show (x.cps ++ y.cps).size = _
  rw [Array.size_append]
  rfl
theorem c_plus : (Str.ofString "+").length = 1 := by decide
theorem c_minus : (Str.ofString "-").length = 1 := by decide
theorem c_g : (Str.ofString "g").length = 1 := by decide
theorem c_sl : (Str.ofString "/").length = 1 := by decide
theorem txt_len {i : Int} (h : i.natAbs < 10 ^ 4300) : (Str.ofString i.repr).length ≤ 4400 := by
  have e := int_text_length_le10 (k := 4300) (by decide) h
  have e2 : (Str.ofString (toString i)).length = (toString i).length := ofString_length _
  have e3 : toString i = i.repr := rfl
  rw [e3] at e e2
  omega
theorem law_number_text : ∀ W ds Q R, sp_number_text W ds Q R → g_number_text W R (endsD Q) (startD 6 ds) := by
  rintro W ds Q R ⟨x, rfl, h, hR, k⟩
  simp [g_number_text, startD]
  refine ⟨x, rfl, h, hR, fun hn => ⟨(k hn).1, fun a b c hN => ?_⟩⟩
  have q := (k hn).2
  have ha := str_sz hN.1
  have hb := str_sz hN.2.1
  have hc := str_sz hN.2.2.1
  have hb' : (if b < 0 then -b else b).natAbs < 10 ^ 4300 := by split <;> simpa using hb
  have la := txt_len ha
  have lb := txt_len hb'
  have lc := txt_len hc
  have hz : 100000 ≤ sizeLine := by decide
  simp
  generalize (if b < 0 then -b else b) = b' at *
  generalize 10 ^ 4300 = big at *
  split
  all_goals
    refine ⟨ha, ?_, hb', ?_, ?_, ?_⟩
    · simp only [c_plus, c_minus]; omega
    · simp only [slen, c_plus, c_minus]; omega
    · simp only [slen, c_plus, c_minus, c_g]; omega
    · split
      · exact q _
      · refine ⟨?_, hc, ?_, q _⟩
        · simp only [slen, c_plus, c_minus, c_g, c_sl]; omega
        · simp only [slen, c_plus, c_minus, c_g, c_sl]; omega
theorem len_plus : ∀ W ds Q R, sp_plus W ds Q R → ds.length = 2 := len2
theorem law_plus : ∀ W ds Q R, sp_plus W ds Q R → g_plus W R (endsD Q) (startD 2 ds) := by
  rintro W ds Q R ⟨x, y, rfl, h, h', hR, hR', k⟩
  simp [g_plus, startD]
  refine need2 h h' hR hR' fun hn hm => ?_
  obtain ⟨⟨a, b, d, rfl, hN, hd⟩, ⟨c, e, f, rfl, hM, hf⟩, q⟩ := k hn hm
  exact ⟨_, _, a, b, d, c, e, f, rfl, hN, hM, by decide, hd, hf, q _⟩
theorem len_minus : ∀ W ds Q R, sp_minus W ds Q R → ds.length = 2 := len2
theorem law_minus : ∀ W ds Q R, sp_minus W ds Q R → g_minus W R (endsD Q) (startD 2 ds) := by
  rintro W ds Q R ⟨x, y, rfl, h, h', hR, hR', k⟩
  simp [g_minus, startD]
  refine need2 h h' hR hR' fun hn hm => ?_
  obtain ⟨⟨a, b, d, rfl, hN, hd⟩, ⟨c, e, f, rfl, hM, hf⟩, q⟩ := k hn hm
  exact ⟨_, _, a, b, d, c, e, f, rfl, hN, hM, by decide, hd, hf, q _⟩
theorem len_is_below : ∀ W ds Q R, sp_is_below W ds Q R → ds.length = 2 := len2
theorem law_is_below : ∀ W ds Q R, sp_is_below W ds Q R → g_is_below W R (endsD Q) (startD 2 ds) := by
  rintro W ds Q R ⟨x, y, rfl, h, h', hR, hR', k⟩
  simp [g_is_below, startD]
  refine need2 h h' hR hR' fun hn hm => ?_
  obtain ⟨⟨a, b, d, rfl, hN, hd⟩, ⟨c, e, f, rfl, hM, hf⟩, q⟩ := k hn hm
  refine ⟨_, a, b, d, c, e, f, rfl, hN, hM, by decide, ?_⟩
  simp [ltD]
  exact q _
theorem len_are_equal : ∀ W ds Q R, sp_are_equal W ds Q R → ds.length = 2 := len2
theorem law_are_equal : ∀ W ds Q R, sp_are_equal W ds Q R → g_are_equal W R (endsD Q) (startD 2 ds) := by
  rintro W ds Q R ⟨x, y, rfl, h, h', hR, hR', k⟩
  simp [g_are_equal, startD]
  refine need2 h h' hR hR' fun hn hm => ?_
  obtain ⟨⟨a, b, d, rfl, hN, hd⟩, ⟨c, e, f, rfl, hM, hf⟩, q⟩ := k hn hm
  refine ⟨_, a, b, d, c, e, f, rfl, hN, hM, by decide, ?_⟩
  show eqD (.int _) (.int 0) Q
  rw [eqD_i]
  exact q _
theorem len_times : ∀ W ds Q R, sp_times W ds Q R → ds.length = 2 := by
  rintro W ds Q R ⟨x, y, rfl, _⟩
  rfl
theorem law_times : ∀ W ds Q R, sp_times W ds Q R → g_times W R (endsD Q) (startD 2 ds) := by
  rintro W ds Q R ⟨x, y, rfl, h, h', hR, hR', k⟩
  simp [g_times, startD]
  refine need2 h h' hR hR' fun hn hm => ?_
  obtain ⟨⟨a, b, d, rfl, hN, hd⟩, ⟨c, e, f, rfl, hM, hf⟩, q⟩ := k hn hm
  exact ⟨_, _, a, b, d, c, e, f, rfl, hN, hM, by decide, hd, hf, q _ _ _ _ _ _ rfl rfl⟩
theorem len_quotient : ∀ W ds Q R, sp_quotient W ds Q R → ds.length = 2 := by
  rintro W ds Q R ⟨x, y, rfl, _⟩
  rfl
theorem law_quotient : ∀ W ds Q R, sp_quotient W ds Q R → g_quotient W R (endsD Q) (startD 2 ds) := by
  rintro W ds Q R ⟨x, y, rfl, h, h', hR, hR', k⟩
  simp [g_quotient, startD]
  refine need2 h h' hR hR' fun hn hm => ?_
  obtain ⟨⟨a, b, d, rfl, hN, hd⟩, ⟨c, e, f, rfl, hM, hf⟩, q⟩ := k hn hm
  have q := q c e f rfl
  have main : ¬ (c = 0 ∧ e = 0) → sp_divided W [tri a b d, tri c e f] Q R := fun h0 => by
    rw [if_neg h0] at q
    exact ⟨_, _, a, b, d, c, e, f, rfl, hN, hM, by decide, by decide, hd.mono (by decide), h0, q _⟩
  simp
  by_cases hc : c = 0
  · by_cases he : e = 0
    · rw [if_pos ⟨hc, he⟩] at q
      simpa [hc, he] using q
    · simp only [hc, he, if_true, if_false]
      rw [← hc]
      exact main fun z => he z.2
  · simp only [hc, if_false]
    exact main fun z => hc z.1
theorem len_power : ∀ W ds Q R, sp_power W ds Q R → ds.length = 1 := by
  rintro W ds Q R ⟨n, rfl, _⟩
  rfl
theorem pow_sz {k : Nat} {a b : Int} (ha : Sz k a) (hb : Sz k b) : Sz (k + 1) b ∧ Sz (k + 1) (a + b) := ⟨hb.mono (by omega), ha.add hb⟩
theorem law_power : ∀ W ds Q R, sp_power W ds Q R → g_power W R (endsD Q) (startD 3 ds) := by
  rintro W ds Q R ⟨n, rfl, n0, n1, q⟩
  have e : (if n < 0 then -n else n) = n := by split <;> omega
  simp [g_power, startD]
  refine ⟨.int n, rfl, rfl, ?_⟩
  have h1 : -2000 ≤ n := by omega
  have h2 : n ≤ 2000 := by omega
  simp [isI, leD, h1, h2, absD, e]
  refine ⟨by omega, by omega, ?_⟩
  refine forG_inv (fun ds σ => ∃ (k : Nat) (a b : Int) (v : SV), ds.length + k = n.toNat ∧ σ = [.d (.int n), .d (tri a b 1), v] ∧ Sz (k + 2) a ∧ Sz (k + 2) b) ?_ ?_ _ _ ⟨0, 1, 0, _, by simp [ND.intsFrom], rfl, by decide, by decide⟩
  · rintro σ ⟨k, a, b, v, hk, rfl, ha, hb⟩
    simp at hk
    simp
    exact q _ _ (ha.mono (by omega)) (hb.mono (by omega))
  · rintro i ds σ ⟨k, a, b, v, hk, rfl, ha, hb⟩ E' hrt hbk hnx hct
    simp at hk
    have hn : 0 < n := by omega
    simp [gtD, hn]
    refine ⟨a, b, 1, rfl, ?_⟩
    simp
    exact hnx _ ⟨k + 1, b, a + b, _, by omega, rfl, (pow_sz ha hb).1, (pow_sz ha hb).2⟩
theorem len_Floor__eq : ∀ W ds Q R, sp_Floor__eq W ds Q R → ds.length = 2 := by
  rintro W ds Q R ⟨x, rfl, _⟩
  rfl
theorem ty_Floor__eq : ∀ W x y Q R, sp_Floor__eq W [x, y] Q R → tyX knownO y = true := by
  rintro W x y Q R ⟨z, e, ⟨ks, s, hz, _⟩, _⟩
  simp at e
  rw [e.2, hz]
  exact knownO_Floor
theorem law_Floor__eq : ∀ W ds Q R, sp_Floor__eq W ds Q R → g_Floor__eq W R (endsD Q) (startD 2 ds) := by
  rintro W ds Q R ⟨x, rfl, ⟨ks, s, rfl, h1, h2⟩, q⟩
  simp [g_Floor__eq, startD, isO, tyX, List.lookup]
  refine eqD_refl h1 ?_
  simp
  exact eqD_refl h2 q
/-- a number whose value is (A + B g) / 3 -/
def Key3 (n : Nat) (A B : Int) (x : D) : Prop := ∃ p q r, x = tri p q r ∧ Num n p q r ∧ 3 * p = A * r ∧ 3 * q = B * r
theorem key3_wh {n : Nat} {A B : Int} {x : D} (h : Key3 n A B x) (k : ¬ (A % 3 = 0 ∧ B % 3 = 0)) : ∃ a b d, x = tri a b d ∧ 1 ≤ d ∧ wholeB a b d = false := by
  obtain ⟨p, q, r, rfl, hN, h1, h2⟩ := h
  refine ⟨p, q, r, rfl, hN.2.2.2, ?_⟩
  have hr := hN.2.2.2
  unfold wholeB
  by_cases c1 : p % r = 0
  · by_cases c2 : q % r = 0
    · exfalso
      obtain ⟨i, rfl⟩ := Int.dvd_of_emod_eq_zero c1
      obtain ⟨j, rfl⟩ := Int.dvd_of_emod_eq_zero c2
      have e1 : A = 3 * i := by
        have : r * A = r * (3 * i) := by rw [Int.mul_comm r A, ← h1, Int.mul_left_comm]
        exact Int.eq_of_mul_eq_mul_left (by omega) this
      have e2 : B = 3 * j := by
        have : r * B = r * (3 * j) := by rw [Int.mul_comm r B, ← h2, Int.mul_left_comm]
        exact Int.eq_of_mul_eq_mul_left (by omega) this
      exact k ⟨by omega, by omega⟩
    · simp [c1, c2]
  · simp [c1]
theorem key3_red {n : Nat} {a b : Int} (ha : Sz n a) (hb : Sz n b) (hn : 20 ≤ n) : Key3 n a b (red a b 3) := by
  obtain ⟨p, q, r, e, hr, h1, h2⟩ := red_prop (a := a) (b := b) (d := 3) (by decide)
  obtain ⟨x, y, z, e2, hN⟩ := red_num (n := n) ha hb ((show Sz 20 (3 : Int) by decide).mono hn) (by decide)
  rw [e] at e2
  cases e2
  exact ⟨p, q, r, e, hN, by rw [Int.mul_comm]; exact h1, by rw [Int.mul_comm]; exact h2⟩
theorem key3_next {n m : Nat} {A B C E : Int} {p q r s t u : Int} (hx : Key3 n A B (tri p q r)) (hy : Key3 m C E (tri s t u)) (hm : n + m ≤ 4000) {W : WD} {Q : D → Prop} {R : Er → Prop}
    (k : ∀ z, Key3 (n + m + 3) (-B - C) (-(A + B) - E) z → Q z) : sp_taken W [tri (-q) (-(p + q)) r, tri s t u] Q R := by
  obtain ⟨p', q', r', e, hN, h1, h2⟩ := hx
  cases e
  obtain ⟨s', t', u', e, hM, h3, h4⟩ := hy
  cases e
  have nN : Num (n + 1) (-q) (-(p + q)) r := ⟨hN.2.1.neg.mono (by omega), (hN.1.add hN.2.1).neg, hN.2.2.1.mono (by omega), hN.2.2.2⟩
  refine ⟨n + 1, m, -q, -(p + q), r, s, t, u, rfl, nN, hM, by omega, hN.2.2.1.mono (by omega), hM.2.2.1.mono (by omega), k _ ?_⟩
  have hr := hN.2.2.2
  have hu := hM.2.2.2
  have hru : r * u ≠ 0 := Int.mul_ne_zero (by omega) (by omega)
  obtain ⟨z1, z2, z3, z4⟩ := add_sz nN hM.neg
  obtain ⟨P, Y, Z, e, hZ, k1, k2⟩ := red_prop (a := -q * u + -s * r) (b := -(p + q) * u + -t * r) (d := r * u) hru
  obtain ⟨x, y, z, e2, hN2⟩ := red_num z1 z2 z3 hru
  rw [e] at e2
  cases e2
  refine ⟨P, Y, Z, e, hN2.up (by omega), ?_, ?_⟩
  · have : (r * u) * (3 * P) = (r * u) * ((-B - C) * Z) := by
      have : 3 * (P * (r * u)) = 3 * ((-q * u + -s * r) * Z) := by rw [k1]
      have e3 : 3 * ((-q * u + -s * r) * Z) = (-(3 * q) * u - (3 * s) * r) * Z := by grind
      rw [e3, h2, h3] at this
      grind
    exact Int.eq_of_mul_eq_mul_left hru this
  · have : (r * u) * (3 * Y) = (r * u) * ((-(A + B) - E) * Z) := by
      have : 3 * (Y * (r * u)) = 3 * ((-(p + q) * u + -t * r) * Z) := by rw [k2]
      have e3 : 3 * ((-(p + q) * u + -t * r) * Z) = (-(3 * p + 3 * q) * u - (3 * t) * r) * Z := by grind
      rw [e3, h1, h2, h4] at this
      grind
    exact Int.eq_of_mul_eq_mul_left hru this
theorem len_keys_from : ∀ W ds Q R, sp_keys_from W ds Q R → ds.length = 2 := by
  rintro W ds Q R ⟨x, y, rfl, _⟩
  rfl
theorem key3_tri {n : Nat} {A B : Int} {x : D} (h : Key3 n A B x) : ∃ p q r, x = tri p q r ∧ Key3 n A B (tri p q r) := by
  obtain ⟨p, q, r, rfl, h⟩ := h
  exact ⟨p, q, r, rfl, p, q, r, rfl, h⟩
theorem law_keys_from : ∀ W ds Q R, sp_keys_from W ds Q R → g_keys_from W R (endsD Q) (startD 4 ds) := by
  rintro W ds Q R ⟨x, y, rfl, ⟨a, b, rfl, rfl, ha, hb⟩, q⟩
  have s3 : Sz 2 (3 : Int) := by decide
  have s1 : Sz 90 (1 : Int) := by decide
  have k0 : Key3 90 (3 * a + 1) 0 (red (3 * a + 1) 0 3) := key3_red (((s3.mul ha).add ((show Sz 20 (1 : Int) by decide).mono (by decide))).mono (by decide)) (by decide) (by decide)
  have k1 : Key3 90 1 (3 * b) (red 1 (3 * b) 3) := key3_red s1 ((s3.mul hb).mono (by decide)) (by decide)
  obtain ⟨p0, q0, r0, e0, k0⟩ := key3_tri k0
  obtain ⟨p1, q1, r1, e1, k1⟩ := key3_tri k1
  simp [g_keys_from, startD, ND.intsFrom, forG, List.range, List.range.loop]
  have s39 : Sz 8900 (3 : Int) := s3.mono (by decide)
  refine ⟨_, _, _, rfl, s39, by decide, ?_⟩
  rw [e0]
  refine ⟨_, _, _, rfl, s39, by decide, ?_⟩
  rw [e1]
  show gApp 2 _ _ _
  refine ⟨[tri p0 q0 r0, tri p1 q1 r1], rfl, ?_⟩
  simp
  refine ⟨p1, q1, r1, rfl, ?_⟩
  simp
  refine ⟨q1, p1 + q1, r1, rfl, ?_⟩
  simp
  refine key3_next k1 k0 (by decide) fun z2 k2 => ?_
  obtain ⟨p2, q2, r2, rfl, k2⟩ := key3_tri k2
  refine ⟨[tri p0 q0 r0, tri p1 q1 r1, tri p2 q2 r2], rfl, ?_⟩
  simp
  refine ⟨p2, q2, r2, rfl, ?_⟩
  simp
  refine ⟨q2, p2 + q2, r2, rfl, ?_⟩
  simp
  refine key3_next k2 k1 (by decide) fun z3 k3 => ?_
  obtain ⟨p3, q3, r3, rfl, k3⟩ := key3_tri k3
  refine ⟨[tri p0 q0 r0, tri p1 q1 r1, tri p2 q2 r2, tri p3 q3 r3], rfl, ?_⟩
  simp [ixD, atI, ixN]
  refine ⟨p3, q3, r3, rfl, ?_⟩
  refine ⟨q3, p3 + q3, r3, rfl, ?_⟩
  refine key3_next k3 k2 (by decide) fun z4 k4 => ?_
  obtain ⟨p4, q4, r4, rfl, k4⟩ := key3_tri k4
  simp [tupleD]
  refine q _ ⟨_, rfl, rfl, fun k m => ?_⟩ (by simp [pl, pls])
  simp only [List.mem_cons, List.not_mem_nil, or_false] at m
  rcases m with rfl | rfl | rfl | rfl | rfl
  · exact key3_wh k0 (by omega)
  · exact key3_wh k1 (by omega)
  · exact key3_wh k2 (by omega)
  · exact key3_wh k3 (by omega)
  · exact key3_wh k4 (by omega)
theorem len_whole_directions : ∀ W ds Q R, sp_whole_directions W ds Q R → ds.length = 1 := by
  rintro W ds Q R ⟨k, rfl, _⟩
  rfl
theorem law_whole_directions : ∀ W ds Q R, sp_whole_directions W ds Q R → g_whole_directions W R (endsD Q) (startD 2 ds) := by
  rintro W ds Q R ⟨k, rfl, ⟨ks, rfl, hl, hk⟩, q⟩
  match ks, hl with
  | [a, b, c, d, e], _ =>
    simp only [List.forall_mem_cons] at hk
    obtain ⟨⟨a1, a2, a3, rfl, ha, wa⟩, ⟨b1, b2, b3, rfl, hb, wb⟩, ⟨c1, c2, c3, rfl, hc, wc⟩, ⟨d1, d2, d3, rfl, hd, wd⟩, ⟨e1, e2, e3, rfl, he, we⟩, _⟩ := hk
    simp [g_whole_directions, startD, ints5, lcG, ixD, atI, ixN]
    refine ⟨_, _, _, rfl, ha, ?_⟩
    simp [wa]
    refine ⟨_, _, _, rfl, hb, ?_⟩
    simp [wb]
    refine ⟨_, _, _, rfl, hc, ?_⟩
    simp [wc]
    refine ⟨_, _, _, rfl, hd, ?_⟩
    simp [wd]
    refine ⟨_, _, _, rfl, he, ?_⟩
    simp [we, tupleD]
    exact q
theorem len_sides_of : ∀ W ds Q R, sp_sides_of W ds Q R → ds.length = 1 := by
  rintro W ds Q R ⟨k, rfl, _⟩
  rfl
theorem law_sides_of : ∀ W ds Q R, sp_sides_of W ds Q R → g_sides_of W R (endsD Q) (startD 8 ds) := by
  rintro W ds Q R ⟨k, rfl, h, q⟩
  unfold g_sides_of
  refine seq_set (x := .tup []) ⟨fun Q q => ⟨k, rfl, h, q⟩⟩ ?_
  simp [lenD, startD]
  exact q
theorem len_is_side : ∀ W ds Q R, sp_is_side W ds Q R → ds.length = 2 := by
  rintro W ds Q R ⟨k, rfl, _⟩
  rfl
theorem law_is_side : ∀ W ds Q R, sp_is_side W ds Q R → g_is_side W R (endsD Q) (startD 3 ds) := by
  rintro W ds Q R ⟨k, rfl, h, q⟩
  have hI : ∀ (R : Er → Prop) (Q : D → Prop) (i : Int), Q (.bl true) → sp_is_integer W [.int i] Q R := fun R Q i q => ⟨.int i, rfl, rfl, q⟩
  simp [g_is_side, startD, no5, isiX, isiB, tyD, isTb, lenD, lcG, tyX, show knownT "tuple" = true by decide]
  refine hI _ _ _ (hI _ _ _ (hI _ _ _ (hI _ _ _ (hI _ _ _ ?_))))
  simp [allD]
  refine ⟨_, rfl, ?_⟩
  simp
  refine ⟨k, rfl, h, ?_⟩
  refine ⟨by decide, by decide, ?_⟩
  have e : inb no5 [no5] = true := by decide +kernel
  show Q (.bl (inb no5 [no5]))
  rw [e]
  exact q
theorem len_Floor : ∀ W ds Q R, sp_Floor W ds Q R → ds.length = 3 := by
  rintro W ds Q R ⟨x, y, rfl, _⟩
  rfl
theorem law_Floor : ∀ W ds Q R x, sp_Floor W ds Q R → g_Floor W R (endsI x "Floor" Q) (startI 6 x "Floor" ds) := by
  rintro W ds Q R z ⟨x, y, rfl, h, q⟩
  obtain ⟨a, b, rfl, rfl, ha, hb⟩ := id h
  simp [g_Floor, startI, startD, forG]
  refine ⟨_, rfl, ty1_tri .., ?_⟩
  simp [num_tri]
  refine ⟨_, rfl, ty1_tri .., ?_⟩
  simp [num_tri]
  refine ⟨_, _, rfl, h, fun k hk hp => ?_⟩
  refine ⟨k, rfl, hk, ?_⟩
  simp
  refine ⟨_, _, _, rfl, fldO_Floor_all_keys, by decide, ?_⟩
  simp
  refine ⟨_, _, _, rfl, fldO_Floor_side, show 1 < 1000 by decide, ?_⟩
  simp [putFD]
  exact q _ ⟨k, no5, rfl, hp, by decide⟩
theorem len__law_golden : ∀ W ds Q R, sp__law_golden W ds Q R → ds.length = 1 := by
  rintro W ds Q R ⟨d, l, _, rfl, _⟩
  rfl
theorem law__law_golden : ∀ W ds Q R, sp__law_golden W ds Q R → g__law_golden W R (endsD Q) (startD 2 ds) := by
  rintro W ds Q R ⟨d, l, rfl, rfl, q⟩
  have int6 : ∀ {R : Er → Prop} {K : D → Prop}, (∀ i, Sz 140 i → K (.int i)) → sp__law_integer (some (d, l)) [dkD d, .int 6] K R := fun k => ⟨d, l, 6, rfl, rfl, by decide, by decide, k⟩
  have sm : ∀ {i : Int}, -1000 ≤ i → i ≤ 1000 → Sz 142 i := fun h1 h2 => (Sz.small (by omega) (by omega)).mono (by decide)
  simp [g__law_golden, startD]
  refine dr (by decide) (by decide) fun r r0 r1 => ?_
  simp
  split
  · refine dr (by decide) (by decide) fun s s0 s1 => ?_
    exact q _ ⟨0, 0, 1 + s, rfl, by decide, by decide, sm (by omega) (by omega), by omega⟩
  · refine int6 fun a ha => int6 fun b hb => ?_
    split
    · refine dr (by decide) (by decide) fun s s0 s1 => ?_
      simp
      exact q _ ⟨a, b, 1 + s, rfl, ha.mono (by decide), hb.mono (by decide), sm (by omega) (by omega), by omega⟩
    · refine int6 fun c hc => ?_
      simp [absD]
      have h1 : Sz 140 (if c < 0 then -c else c) := by
        split
        · exact hc.neg
        · exact hc
      have h2 : 0 ≤ (if c < 0 then -c else c) := by split <;> omega
      refine q _ ⟨a, b, _, rfl, ha.mono (by decide), hb.mono (by decide), (((show Sz 140 (1 : Int) by decide).add h1).mono (by decide)), by omega⟩
theorem len__law_odd : ∀ W ds Q R, sp__law_odd W ds Q R → ds.length = 2 := by
  rintro W ds Q R ⟨d, l, x, _, rfl, _⟩
  rfl
theorem law__law_odd : ∀ W ds Q R, sp__law_odd W ds Q R → g__law_odd W R (endsD Q) (startD 3 ds) := by
  rintro W ds Q R ⟨d, l, x, rfl, rfl, hx, q⟩
  have pick : ∀ xs : List D, 0 < xs.length → xs.length < 1000 → (∀ y ∈ xs, Pok 4 400 80000 y) → sp__law_pick (some (d, l)) [dkD d, .lst xs] Q R := fun xs h1 h2 h3 => ⟨d, l, xs, rfl, .inl rfl, h1, Nat.lt_trans h2 (by decide), fun y m => q y (h3 y m)⟩
  obtain ⟨n, en, el, sn⟩ : ∃ i : Int, intText? (Txt.mul (Str.ofString "9") (100 : Int)) = some i ∧ (Txt.mul (Str.ofString "9") (100 : Int)).length ≤ sizeLine ∧ Sz 340 i := by
    obtain ⟨i, e1, e2, i0, i1⟩ := nine_text (k := 100) (by decide) (by decide)
    exact ⟨i, e1, e2, (ten_sz (k := 17) i0 (Int.lt_of_lt_of_le i1 (by decide +kernel))).mono (by decide)⟩
  have hn : Pok 4 400 80000 (.int n) := (pok_int sn).up (by decide) (by decide) (by decide)
  have hn' : Pok 4 400 80000 (.int (-n)) := (pok_int sn.neg).up (by decide) (by decide) (by decide)
  rcases hx with ⟨i, rfl, hi⟩ | ⟨xs, rfl, hl, hxs⟩
  · unfold g__law_odd
    refine' seq_set ?a1 ?b1
    case a1 =>
      repeat' first | exact Ev.c | exact EvA.nil | apply EvA.cons | apply Ev.lst | apply Ev.tup | apply Ev.neg | apply Ev.dic | exact Ev.nines (by decide) en el (by decide)
      all_goals simp
    refine' seq_set ?a2 ?b2
    case a2 =>
      refine' Ev.addL (Ev.var rfl) ?x2 ?y2
      case x2 =>
        repeat' first | exact Ev.c | exact EvA.nil | apply EvA.cons | apply Ev.lst | apply Ev.tup | apply Ev.neg | apply Ev.dic | exact Ev.nines (by decide) en el (by decide)
        all_goals simp
      simp
    refine' seq_set ?a3 ?b3
    case a3 =>
      refine' Ev.addL (Ev.var rfl) ?x3 ?y3
      case x3 =>
        repeat' first | exact Ev.c | exact EvA.nil | apply EvA.cons | apply Ev.lst | apply Ev.tup | apply Ev.neg | apply Ev.dic | exact Ev.nines (by decide) en el (by decide)
        all_goals simp
      simp
    refine' seq_f (Ev.isx (Ev.var rfl) (by decide) rfl (by rfl)) ?_
    refine' seq_t (Ev.isx (Ev.var rfl) (by decide) rfl (by rfl)) ?_
    refine' seq_set ?a4 ?b4
    case a4 =>
      refine' Ev.addL (Ev.var rfl) ?x4 ?y4
      case x4 =>
        refine' Ev.mul3 ?u ?v
        case u =>
          refine' Ev.lst (EvA.cons (Ev.eqI (Ev.var rfl) Ev.c) (EvA.cons (Ev.lst (EvA.cons (Ev.var rfl) EvA.nil) (by simp)) (EvA.cons (Ev.tup (EvA.cons (Ev.var rfl) EvA.nil) (by simp)) (EvA.cons (Ev.strI (Ev.var rfl) ?z) (EvA.cons (Ev.mulI (Ev.var rfl) Ev.c (hi.ok (show Sz 20 (2 : Int) by decide) (by decide))) (EvA.cons (Ev.neg (Ev.var rfl)) (EvA.cons (Ev.subI (Ev.neg Ev.c) (Ev.abs (Ev.var rfl))) EvA.nil))))))) (by simp)
          exact Nat.lt_of_lt_of_le (hi.mono (by decide : 150 ≤ 240)) c60
        simp
      simp
    refine pick _ (by simp) (by simp) ?_
    have pi : ∀ {j : Int}, Sz 240 j → Pok 4 400 80000 (.int j) := fun h => (pok_int h).up (by decide) (Nat.le_of_ble_eq_true rfl) (by decide)
    have one := int_tup (ys := [.int i]) (fun y m => ⟨i, List.mem_singleton.mp m, hi.mono (by decide)⟩) (by simp)
    simp only [List.forall_mem_append, List.forall_mem_cons, List.not_mem_nil, false_implies, implies_true, and_true]
    have c2 : Pok 4 400 80000 (.int (i * 2)) := pi ((hi.mul (show Sz 20 (2 : Int) by decide)).mono (by decide))
    have c3 : Pok 4 400 80000 (.int (-i)) := pi ((hi.mono (by decide)).neg)
    have ab : Sz 150 (if i < 0 then -i else i) := by
      split
      · exact hi.neg
      · exact hi
    have c1 : Pok 4 400 80000 (.int (-1 - (if i < 0 then -i else i))) := pi (by
      rw [Int.sub_eq_add_neg]
      exact ((show Sz 150 (-1 : Int) by decide).add ab.neg).mono (by decide))
    have c4 : Pok 4 400 80000 (.bl (decide (i = 1))) := ⟨by simp [rp], by simp [sm], by simp [rsz]⟩
    have c5 : Pok 4 400 80000 (.str (toString i)) := (pok_text (m := 260) (Nat.lt_of_lt_of_le (hi.mono (by decide : 150 ≤ 240)) c60)).up (by decide) (by decide) (by decide)
    have c7 := one.1.up (n' := 4) (m' := 400) (s' := 80000) (by decide) (by decide) (by decide)
    have c8 := one.2.up (n' := 4) (m' := 400) (s' := 80000) (by decide) (by decide) (by decide)
    repeat' apply And.intro
    all_goals first | exact hn | exact hn' | exact c1 | exact c2 | exact c3 | exact c4 | exact c5 | exact c7 | exact c8 | exact ⟨by decide +kernel, by decide +kernel, by decide +kernel⟩
  · unfold g__law_odd
    refine' seq_set ?a11 ?b11
    case a11 =>
      repeat' first | exact Ev.c | exact EvA.nil | apply EvA.cons | apply Ev.lst | apply Ev.tup | apply Ev.neg | apply Ev.dic | exact Ev.nines (by decide) en el (by decide)
      all_goals simp
    refine' seq_set ?a12 ?b12
    case a12 =>
      refine' Ev.addL (Ev.var rfl) ?x12 ?y12
      case x12 =>
        repeat' first | exact Ev.c | exact EvA.nil | apply EvA.cons | apply Ev.lst | apply Ev.tup | apply Ev.neg | apply Ev.dic | exact Ev.nines (by decide) en el (by decide)
        all_goals simp
      simp
    refine' seq_set ?a13 ?b13
    case a13 =>
      refine' Ev.addL (Ev.var rfl) ?x13 ?y13
      case x13 =>
        repeat' first | exact Ev.c | exact EvA.nil | apply EvA.cons | apply Ev.lst | apply Ev.tup | apply Ev.neg | apply Ev.dic | exact Ev.nines (by decide) en el (by decide)
        all_goals simp
      simp
    refine' seq_t (Ev.isx (Ev.var rfl) (by decide) rfl (by rfl)) ?_
    refine' seq_set ?a19 ?b19
    case a19 =>
      refine' Ev.addL (Ev.var rfl) ?x19 ?y19
      case x19 =>
        refine' Ev.mul2 ?u9 ?v9
        case u9 =>
          refine' Ev.lst (EvA.cons (Ev.listT (Ev.var rfl)) (EvA.cons (Ev.addT (Ev.var rfl) (Ev.tup (EvA.cons Ev.c EvA.nil) (by simp)) ?z1) (EvA.cons (Ev.slLo (Ev.var rfl) Ev.c) (EvA.cons (Ev.slHi (Ev.var rfl) (Ev.neg Ev.c)) (EvA.cons (Ev.tup (EvA.cons (Ev.var rfl) EvA.nil) (by simp)) (EvA.cons (Ev.addT (Ev.slHi (Ev.var rfl) Ev.c) (Ev.tup (EvA.cons Ev.c EvA.nil) (by simp)) ?z2) (EvA.cons (Ev.addT (Ev.slHi (Ev.var rfl) Ev.c) (Ev.var rfl) ?z3) (EvA.cons (Ev.tup (EvA.cons (Ev.var rfl) (EvA.cons (Ev.var rfl) (EvA.cons (Ev.var rfl) EvA.nil))) (by simp)) EvA.nil)))))))) (by simp)
          case z1 => exact Nat.le_trans (by simp; omega : xs.length + [D.int 1].length ≤ 20) (by decide)
          case z2 => exact Nat.le_trans (by have := cut_len xs none (some 2); simp; omega : (cutG xs none (some 2)).length + [D.int 0].length ≤ 20) (by decide)
          case z3 => exact Nat.le_trans (by have := cut_len xs none (some 2); omega : _ ≤ 20) (by decide)
        simp
      simp
    refine pick _ (by simp) (by simp) ?_
    have hy : ∀ y ∈ xs, ∃ i, y = .int i ∧ Sz 240 i := fun y m => by
      obtain ⟨i, e, hi⟩ := hxs y m
      exact ⟨i, e, hi.mono (by decide)⟩
    have h0 : ∃ i, D.int 0 = .int i ∧ Sz 240 i := ⟨0, rfl, by decide⟩
    have h1 : ∃ i, D.int 1 = .int i ∧ Sz 240 i := ⟨1, rfl, by decide⟩
    have up : ∀ {x : D}, Pok 1 260 60000 x → Pok 4 400 80000 x := fun h => h.up (by decide) (by decide) (by decide)
    have mm : ∀ ys : List D, (∀ y ∈ ys, y ∈ xs ∨ y = .int 0 ∨ y = .int 1) → ys.length ≤ 12 → Pok 1 260 60000 (.tup ys) ∧ Pok 1 260 60000 (.lst ys) := fun ys k1 k2 => int_tup (fun y m => (k1 y m).elim (hy y) fun e => e.elim (fun e => e ▸ h0) fun e => e ▸ h1) k2
    have l1 := cut_len xs (some 1) none
    have l2 := cut_len xs none (some (-1))
    have l3 := cut_len xs none (some 2)
    have c0 := mm xs (fun y m => .inl m) (by omega)
    have c1 := up c0.2
    have c2 := up (mm (xs ++ [.int 1]) (fun y m => (List.mem_append.mp m).imp id fun m => .inr (List.mem_singleton.mp m)) (by simp; omega)).1
    have c3 := up (mm (cutG xs (some 1) none) (fun y m => .inl (cut_mem m)) (by omega)).1
    have c4 := up (mm (cutG xs none (some (-1))) (fun y m => .inl (cut_mem m)) (by omega)).1
    have ih : rp 1 (.tup xs) = true ∧ sm (2 ^ 260) (.tup xs) = true ∧ rsz (.tup xs) ≤ 22000 := ⟨c0.1.r, c0.1.b, by
      have := (pok_ints hy).2.2
      simp only [rsz, this]
      omega⟩
    have c5 : Pok 4 400 80000 (.tup [.tup xs]) := by
      obtain ⟨p1, p2, p3⟩ := ih
      refine Pok.up (n := 2) (m := 260) (s := 80000) ⟨?_, ?_, ?_⟩ (by decide) (by decide) (by decide)
      · rw [rp, rps, rps, p1]; rfl
      · rw [sm, sms, sms, p2]; rfl
      · simp only [rsz, rszs] at p3 ⊢
        omega
    have c6 : Pok 4 400 80000 (.tup [.tup xs, .tup xs, .tup xs]) := by
      obtain ⟨p1, p2, p3⟩ := ih
      refine Pok.up (n := 2) (m := 260) (s := 80000) ⟨?_, ?_, ?_⟩ (by decide) (by decide) (by decide)
      · rw [rp, rps, rps, rps, rps, p1]; rfl
      · rw [sm, sms, sms, sms, sms, p2]; rfl
      · simp only [rsz, rszs] at p3 ⊢
        omega
    have c7 := up (mm (cutG xs none (some 2) ++ [.int 0]) (fun y m => (List.mem_append.mp m).elim (fun m => .inl (cut_mem m)) fun m => .inr (.inl (List.mem_singleton.mp m))) (by simp; omega)).1
    have c8 := up (mm (cutG xs none (some 2) ++ xs) (fun y m => .inl ((List.mem_append.mp m).elim cut_mem id)) (by simp; omega)).1
    simp only [List.forall_mem_append, List.forall_mem_cons, List.not_mem_nil, false_implies, implies_true, and_true]
    repeat' apply And.intro
    all_goals first | exact hn | exact hn' | exact c1 | exact c2 | exact c3 | exact c4 | exact c5 | exact c6 | exact c7 | exact c8 | exact ⟨by decide +kernel, by decide +kernel, by decide +kernel⟩
theorem len__law_bent : ∀ n W ds Q R, sp__law_bent n W ds Q R → ds.length = 2 := by
  rintro n W ds Q R ⟨d, l, x, _, rfl, _⟩
  rfl
theorem odd_in {d l : Addr} {x : D} {Q : D → Prop} {R : Er → Prop} {n : Nat} (h : Smp x) (q : ∀ y, Pok (5 + n) 400 (80000 + n * 100000) y → Q y) : sp__law_odd (some (d, l)) [dkD d, x] Q R := ⟨d, l, x, rfl, rfl, h, fun y hy => q y (hy.up (by omega) (by decide) (by omega))⟩
theorem law__law_bent_0 : ∀ W ds Q R, sp__law_bent 0 W ds Q R → g__law_bent (fun _ _ _ _ => False) W R (endsD Q) (startD 3 ds) := by
  rintro W ds Q R ⟨d, l, x, rfl, rfl, hx, h0, q⟩
  obtain ⟨i, rfl, hi⟩ := h0 rfl
  simp [g__law_bent, startD, isiX, isiB, tyD, tyX, isTb, show knownT "tuple" = true by decide]
  exact odd_in hx q
theorem law__law_bent : ∀ n W ds Q R, sp__law_bent (n + 1) W ds Q R → g__law_bent (sp__law_bent n) W R (endsD Q) (startD 3 ds) := by
  rintro n W ds Q R ⟨d, l, x, rfl, rfl, hx, _, q⟩
  rcases id hx with ⟨i, rfl, hi⟩ | ⟨xs, rfl, hl, hxs⟩
  · simp [g__law_bent, startD, isiX, isiB, tyD, tyX, isTb, show knownT "tuple" = true by decide]
    exact odd_in hx q
  · simp [g__law_bent, startD, isiX, isiB, tyD, tyX, isTb, show knownT "tuple" = true by decide]
    have hp : pl 64 (.tup xs) = true := by
      simp only [pl, pls_all, List.all_eq_true]
      intro y m
      obtain ⟨i, rfl, _⟩ := hxs y m
      simp
    refine ⟨hp, by decide, ?_⟩
    split
    · exact odd_in hx q
    · rename_i he
      have hpos : 0 < xs.length := by
        cases xs with
        | nil => exact absurd (show eqb (.tup []) (.tup []) = true by decide) he
        | cons _ _ => simp
      refine dr (by decide) (by decide) fun r r0 r1 => ?_
      simp
      split
      · exact odd_in hx q
      · refine dr (by omega) (by omega) fun r r0 r1 => ?_
        simp [slD]
        have hr : r.toNat < xs.length := by omega
        have hm : IntD xs[r.toNat] := hxs _ (List.getElem_mem hr)
        refine ⟨xs[r.toNat], by simp [atI, ixN, r0, r1, hr], ?_⟩
        refine ⟨d, l, _, rfl, rfl, .inl hm, fun _ => hm, fun y hy => ?_⟩
        have intc : ∀ a b : Option Int, rps 0 (cutG xs a b) = true ∧ sms (2 ^ 240) (cutG xs a b) = true ∧ rszs (cutG xs a b) ≤ 4303 * 5 := fun a b => by
          obtain ⟨h1, h2, h3⟩ := pok_ints (ys := cutG xs a b) fun y m => by
            obtain ⟨i, e, hi⟩ := hxs y (cut_mem m)
            exact ⟨i, e, hi.mono (by decide)⟩
          have := cut_len xs a b
          exact ⟨h1, h2, by omega⟩
        have l1 := cut_len xs none (some r)
        have l2 := cut_len xs (some (r + 1)) none
        obtain ⟨p1, p2, p3⟩ := intc none (some r)
        obtain ⟨u1, u2, u3⟩ := intc (some (r + 1)) none
        simp [addD]
        refine ⟨Nat.le_trans (by omega : _ ≤ 20) (by decide), Nat.le_trans (by omega : _ ≤ 20) (by decide), q _ ⟨?_, ?_, ?_⟩⟩
        · have e : 5 + (n + 1) = (5 + n) + 1 := by omega
          rw [e]
          simp only [rp, rps_all, List.all_append, List.all_cons, Bool.and_eq_true]
          exact ⟨by rw [← rps_all]; exact rps_mono 0 _ _ (by omega) p1, hy.r, by rw [← rps_all]; exact rps_mono 0 _ _ (by omega) u1⟩
        · simp only [sm, sms_all, List.all_append, List.all_cons, Bool.and_eq_true]
          exact ⟨by rw [← sms_all]; exact sms_mono _ _ _ (Nat.pow_le_pow_right (by decide) (by decide)) p2, hy.b, by rw [← sms_all]; exact sms_mono _ _ _ (Nat.pow_le_pow_right (by decide) (by decide)) u2⟩
        · have := hy.z
          simp only [rsz, rszs_app, rszs]
          omega
theorem gold_smp {x : D} (h : Gold x) : Smp x := by
  obtain ⟨a, b, c, rfl, ha, hb, hc, _⟩ := h
  refine .inr ⟨_, rfl, by simp, fun y m => ?_⟩
  simp only [List.mem_cons, List.not_mem_nil, or_false] at m
  rcases m with rfl | rfl | rfl
  · exact ⟨_, rfl, ha.mono (by decide)⟩
  · exact ⟨_, rfl, hb.mono (by decide)⟩
  · exact ⟨_, rfl, hc.mono (by decide)⟩
theorem gold_pk {x : D} (h : Gold x) : Pk x := by
  obtain ⟨a, b, c, rfl, ha, hb, hc, _⟩ := h
  refine (int_tup' (k := 142) (ys := [.int a, .int b, .int c]) fun y m => ?_).1.up (by decide) (by decide) (by simp)
  simp only [List.mem_cons, List.not_mem_nil, or_false] at m
  rcases m with rfl | rfl | rfl
  · exact ⟨_, rfl, ha⟩
  · exact ⟨_, rfl, hb⟩
  · exact ⟨_, rfl, hc⟩
theorem len__law_value : ∀ W ds Q R, sp__law_value W ds Q R → ds.length = 1 := by
  rintro W ds Q R ⟨d, l, _, rfl, _⟩
  rfl
theorem law__law_value : ∀ W ds Q R, sp__law_value W ds Q R → g__law_value W R (endsD Q) (startD 3 ds) := by
  rintro W ds Q R ⟨d, l, rfl, rfl, q⟩
  simp [g__law_value, startD]
  refine dr (by decide) (by decide) fun r r0 r1 => ?_
  refine ⟨d, l, rfl, rfl, fun x hx => ?_⟩
  simp
  split
  · exact ⟨d, l, x, rfl, rfl, gold_smp hx, fun y hy => q y (hy.up (by decide) (by decide) (by decide))⟩
  · split
    · exact ⟨d, l, x, rfl, rfl, gold_smp hx, fun h => absurd h (by decide), fun y hy => q y (hy.up (by decide) (by decide) (by decide))⟩
    · exact q _ (gold_pk hx)
theorem one_lc {σ : List SV} {i : Nat} {ft : GT} {Q : List D → Prop} {c : D → Bool} (hi : i < σ.length) : ∀ (xs acc : List D), (∀ x ∈ xs, ∀ Qd : Bool → Prop, Qd (c x) → ft (σ.set i (.d x)) Qd) → acc.length + xs.length ≤ sizeLine → Q (acc ++ (xs.filter c).map fun _ => .int 1) → lcG (ggName i) ft (gC (.int 1)) [i] σ Q xs acc
  | [], acc, _, _, q => by simpa [lcG] using q
  | x :: xs, acc, h, hl, q => by
    simp only [List.length_cons] at hl
    simp only [lcG, ggName, wipeD, gC, List.set_set]
    refine h x List.mem_cons_self _ ?_
    cases hc : c x
    · simp only [Bool.false_eq_true, if_false]
      exact one_lc hi xs _ (fun y m => h y (List.mem_cons_of_mem _ m)) (by omega) (by simpa [hc] using q)
    · simp only [if_true]
      exact ⟨by omega, one_lc hi xs _ (fun y m => h y (List.mem_cons_of_mem _ m)) (by simp; omega) (by simpa [hc] using q)⟩
theorem and_ones {xs : List D} {P : Prop} {Q : D → Prop} (q1 : xs.all isI = true → P) (q2 : xs.all isI = false → Q (.bl false)) : pl 64 (.lst ([] ++ (xs.filter fun x => !isI x).map fun _ => .int 1)) = true ∧ pl 64 (.lst []) = true ∧ if eqb (.lst ([] ++ (xs.filter fun x => !isI x).map fun _ => .int 1)) (.lst []) = true then P else Q (.bl (eqb (.lst ([] ++ (xs.filter fun x => !isI x).map fun _ => .int 1)) (.lst []))) := by
  have e : ((xs.filter fun x => !isI x).map fun _ => D.int 1).isEmpty = xs.all isI := by
    induction xs with
    | nil => rfl
    | cons x xs ih => cases h : isI x <;> simp_all
  simp only [List.nil_append, pl, pls_ones, eqb, toPy, ne_nil, e]
  refine ⟨trivial, by simp [pls], ?_⟩
  cases h : xs.all isI
  · simpa [h] using q2 h
  · simpa [h] using q1 h
theorem len__law_is_golden : ∀ W ds Q R, sp__law_is_golden W ds Q R → ds.length = 1 := by
  rintro W ds Q R ⟨x, rfl, _⟩
  rfl
theorem law__law_is_golden : ∀ W ds Q R, sp__law_is_golden W ds Q R → g__law_is_golden W R (endsD Q) (startD 2 ds) := by
  rintro W ds Q R ⟨x, rfl, h, q⟩
  simp [g__law_is_golden, startD, isiX, tyX_ty (rp_ty h), show knownT "tuple" = true by decide]
  cases x with
  | tup xs =>
    have hx := rp_tup h
    simp [isiB, tyD, isTb, lenD, -neD_l, -eqb_nil]
    by_cases hl : xs.length = 3
    · simp [hl, -neD_l]
      refine one_lc (c := fun x => !isI x) (by simp) xs [] (fun x m Qd q => ?_) (by simp [hl]) ?_
      · simp [isiX, tyX_ty (hx x m), show knownT "int" = true by decide, show knownT "bool" = true by decide]
        cases x <;> simpa [isiB, tyD, isTb, isI] using q
      obtain ⟨a, b, c, rfl⟩ := len3 hl
      refine and_ones (fun hc => ?_) fun hc => ?_
      · simp at hc
        obtain ⟨h1, h2, h3⟩ := hc
        obtain ⟨i, rfl⟩ := isI_n h1
        obtain ⟨j, rfl⟩ := isI_n h2
        obtain ⟨k, rfl⟩ := isI_n h3
        have en : isNum (.tup [.int i, .int j, .int k]) = decide (0 < k) := by
          show (true && true && true && decide (1 ≤ k)) = _
          simp
          exact Iff.rfl
        rw [en] at q
        simpa [gtD] using q
      · have en : isNum (.tup [a, b, c]) = false := by
          simp only [isNum]
          simp at hc
          cases h1 : isI a <;> cases h2 : isI b <;> cases h3 : isI c <;> simp_all
        rw [en] at q
        exact q
    · have hl2 : ¬ ((xs.length : Int) = 3) := by omega
      rw [num_len hl] at q
      simpa [hl, hl2] using q
  | _ => simpa [isiB, tyD, isTb, isNum] using q
theorem law__law_refused : ∀ W act Q f0, sp__law_refused W act Q → g__law_refused W f0 act (endsD Q) (startD 3 [.opq (.ref f0)]) := by
  rintro W act Q f0 ⟨o, ha, q⟩
  simp [g__law_refused, startD]
  refine ha _ _ ?_
  cases o with
  | none =>
    intro z
    simpa [refD] using q
  | bad x =>
    simp [refc, hdG, gErF, gIsE, knownE, clauseStart]
    exact q
  | zero =>
    simp [refc, hdG, gErF, gIsE, knownE, clauseStart]
    exact q
theorem Pk.rp {x : D} (h : Pk x) : ND.rp 64 x = true := rp_mono _ _ _ (by decide) (Pok.r h)
theorem pk_nm {x : D} {n k : Nat} (h : Pk x) (hn : 400 ≤ n) (hk : 400 ≤ k) (e : isNum x = true) : Nm n k x := by
  obtain ⟨a, b, c, rfl, hc⟩ := num_n e
  have hb := h.b
  simp only [sm, sms, Bool.and_eq_true, decide_eq_true_eq] at hb
  obtain ⟨h1, h2, h3, _⟩ := hb
  have s1 : Sz 400 a := h1
  have s2 : Sz 400 b := h2
  have s3 : Sz 400 c := h3
  exact ⟨a, b, c, rfl, ⟨s1.mono hn, s2.mono hn, s3.mono hn, hc⟩, s3.mono hk⟩
def isZ : D → Bool
  | .tup [.int a, .int b, _] => decide (a = 0 ∧ b = 0)
  | _ => false
def o1 (p : D) : RO := if isNum p = true then .none else .bad p
def o2 (p q : D) : RO := if isNum p = true then (if isNum q = true then .none else .bad q) else .bad p
def oq (p q : D) : RO := if isNum p = true then (if isNum q = true then (if isZ q = true then .zero else .none) else .bad q) else .bad p
def lastD (p q : D) : D := if isNum p = true then (if isNum q = true then (if isZ q = true then .tup [.str "zero", .bl true] else .non) else .non) else .non
theorem in1 {W : WD} {p : D} {n : Nat} {Q : D → Prop} {R : Er → Prop} (hp : Pk p) (hn : 400 ≤ n) (h : refc (o1 p) Q R) : sp1 n W [p] Q R := by
  refine ⟨p, rfl, ty1_rp hp.rp, fun e => ?_, fun e => ⟨pk_nm hp hn hn e, ?_⟩⟩
  · unfold o1 at h
    rw [if_neg (by simp [e])] at h
    exact h
  · unfold o1 at h
    rw [if_pos e] at h
    exact h
theorem in2 {W : WD} {p q : D} {n k : Nat} {Q : D → Prop} {R : Er → Prop} (hp : Pk p) (hq : Pk q) (hn : 400 ≤ n) (hk : 400 ≤ k) (h : refc (o2 p q) Q R) : sp2 n k W [p, q] Q R := by
  unfold o2 at h
  refine ⟨p, q, rfl, ty1_rp hp.rp, ty1_rp hq.rp, fun e => ?_, fun e e' => ?_, fun e e' => ⟨pk_nm hp hn hk e, pk_nm hq hn hk e', ?_⟩⟩
  · rw [if_neg (by simp [e])] at h
    exact h
  · rw [if_pos e, if_neg (by simp [e'])] at h
    exact h
  · rw [if_pos e, if_pos e'] at h
    exact h
theorem in_times {W : WD} {p q : D} {Q : D → Prop} {R : Er → Prop} (hp : Pk p) (hq : Pk q) (h : refc (o2 p q) Q R) : sp_times W [p, q] Q R := by
  obtain ⟨x, y, e, h1, h2, h3, h4, h5⟩ := in2 (W := W) (n := 100000) (k := 4400) hp hq (by decide) (by decide) h
  exact ⟨x, y, e, h1, h2, h3, h4, fun k k' => ⟨(h5 k k').1, (h5 k k').2.1, fun _ _ _ _ _ _ _ _ => (h5 k k').2.2 _⟩⟩
theorem in_red {W : WD} {p : D} {Q : D → Prop} {R : Er → Prop} (hp : Pk p) (h : refc (o1 p) Q R) : sp_reduced W [p] Q R := by
  obtain ⟨x, e, h1, h2, h3⟩ := in1 (W := W) (n := 2000) hp (by decide) h
  exact ⟨x, e, h1, h2, fun k => ⟨(h3 k).1, fun _ _ _ _ => (h3 k).2 _⟩⟩
theorem in_quot {W : WD} {p q : D} {Q : D → Prop} {R : Er → Prop} (hp : Pk p) (hq : Pk q) (h : refc (oq p q) Q R) : sp_quotient W [p, q] Q R := by
  unfold oq at h
  refine ⟨p, q, rfl, ty1_rp hp.rp, ty1_rp hq.rp, fun e => ?_, fun e e' => ?_, fun e e' => ⟨pk_nm hp (by decide) (by decide) e, pk_nm hq (by decide) (by decide) e', fun a b c hy => ?_⟩⟩
  · rw [if_neg (by simp [e])] at h
    exact h
  · rw [if_pos e, if_neg (by simp [e'])] at h
    exact h
  · rw [if_pos e, if_pos e'] at h
    subst hy
    by_cases hz : a = 0 ∧ b = 0
    · rw [if_pos hz]
      rw [if_pos (by simp [isZ, hz])] at h
      exact h
    · rw [if_neg hz]
      rw [if_neg (by simpa [isZ] using hz)] at h
      exact h
theorem Ev.ref {σ : List SV} {W : WD} {fl : (Er → Prop) → GE} {o : RO} (h : ∀ Qd R, refc o Qd R → fl R (noOwn σ) Qd) : Ev σ (gLam sp__law_refused W fl) (refD o) := ⟨fun Q q => ⟨o, h, q⟩⟩
theorem Ev.ref1 {σ : List SV} {W : WD} {sp : DSp} {o : RO} {fs : GA} {xs : List D} (a : EvA (noOwn σ) fs xs) (h : ∀ Qd R, refc o Qd R → sp W xs Qd R) : Ev σ (gLam sp__law_refused W fun R => gCall sp W R fs) (refD o) := Ev.ref fun Qd R r => a.run _ (h Qd R r)
theorem Ev.refK {σ : List SV} {W : WD} {sp : DSp} {o : RO} {fs : GA} {n m : Nat} {pm : List Nat} {ws xs : List D} (a : EvA (noOwn σ) fs ws) (e : permA n m pm [] ws = xs) (h : ∀ Qd R, refc o Qd R → sp W xs Qd R) : Ev σ (gLam sp__law_refused W fun R => gCallK sp n m pm W R ND.gNil fs) (refD o) := Ev.ref fun Qd R r => a.run _ (by subst e; exact h Qd R r)
theorem Ev.same {σ : List SV} {W : WD} {R : Er → Prop} {fs : GA} {x : D} (h : EvA σ fs [x, x]) (hr : Rok x) : Ev σ (gCall sp__law_same W R fs) (.bl true) := ⟨fun Q q => h.run _ ⟨x, rfl, hr, q⟩⟩
theorem Ev.mulL {σ : List SV} {f : GE} {xs : List D} {k : Int} (h : Ev σ f (.lst xs)) (h0 : 0 ≤ k) (h1 : k < 2 ^ 63) (hl : xs.length * k.toNat ≤ sizeLine) : Ev σ (gBin mulD f (gC (.int k))) (.lst (List.replicate k.toNat xs).flatten) := ⟨fun Q q => h.run _ ⟨h0, h1, hl, q⟩⟩
section
variable {a b c d e : SV} {f : GE} {s : GS} {E : Ed} {r : D} {n : Nat}
theorem rep_app (n : Nat) (r : D) : List.replicate n r ++ [r] = List.replicate (n + 1) r := by simp [List.replicate_succ']
theorem app2 (h : Ev [a, b, .ol (List.replicate n r)] f r) (hl : n < 100) (q : s E [a, b, .ol (List.replicate (n + 1) r)]) : gSeq (gApp 2 f) s E [a, b, .ol (List.replicate n r)] := seq_app rfl h (by rw [List.length_replicate]; exact Nat.lt_trans hl (by decide)) (by rw [rep_app]; exact q)
theorem app4 (h : Ev [a, b, c, d, .ol (List.replicate n r), e] f r) (hl : n < 100) (q : s E [a, b, c, d, .ol (List.replicate (n + 1) r), e]) : gSeq (gApp 4 f) s E [a, b, c, d, .ol (List.replicate n r), e] := seq_app rfl h (by rw [List.length_replicate]; exact Nat.lt_trans hl (by decide)) (by rw [rep_app]; exact q)
end
theorem pok_bad {x : D} (h : Pk x) : Pok 7 400 210000 (.tup [.str "number", x]) := by
  refine ⟨?_, ?_, ?_⟩
  · simp only [rp, rps, Bool.and_eq_true]
    exact ⟨by decide +kernel, h.r, trivial⟩
  · simp only [sm, sms, Bool.and_eq_true]
    exact ⟨trivial, h.b, trivial⟩
  · have := h.z
    have e : rsz (.str "number") ≤ 100 := by decide +kernel
    show rsz (.str "number") + 2 + (rsz x + 2 + 0) + 3 ≤ _
    omega
theorem pok_zero : Pok 7 400 210000 (.tup [.str "zero", .bl true]) := ⟨by decide +kernel, by decide +kernel, by decide +kernel⟩
theorem pok_non : Pok 7 400 210000 .non := ⟨by decide +kernel, by decide +kernel, by decide +kernel⟩
theorem pok_o1 {p : D} (hp : Pk p) : Pok 7 400 210000 (refD (o1 p)) := by
  unfold o1
  split
  · exact pok_non
  · exact pok_bad hp
theorem pok_o2 {p q : D} (hp : Pk p) (hq : Pk q) : Pok 7 400 210000 (refD (o2 p q)) := by
  unfold o2
  split
  · split
    · exact pok_non
    · exact pok_bad hq
  · exact pok_bad hp
theorem pok_oq {p q : D} (hp : Pk p) (hq : Pk q) : Pok 7 400 210000 (refD (oq p q)) := by
  unfold oq
  split
  · split
    · split
      · exact pok_zero
      · exact pok_non
    · exact pok_bad hq
  · exact pok_bad hp
theorem rok_rep {x : D} {n : Nat} (h : Pok 7 400 210000 x) (hn : n ≤ 20) : Rok (.lst (List.replicate n x)) := by
  refine Pok.rok (n := 8) (m := 400) (s := 5000000) ⟨?_, ?_, ?_⟩ (by decide) (by decide) (by decide) (by simp [toPy, isDct])
  · simp only [rp, rps_all, List.all_eq_true, List.mem_replicate]
    rintro y ⟨_, rfl⟩
    exact h.r
  · simp only [sm, sms_all, List.all_eq_true, List.mem_replicate]
    rintro y ⟨_, rfl⟩
    exact h.b
  · have hz := h.z
    have : ∀ k : Nat, rszs (List.replicate k x) ≤ 210002 * k := fun k => by
      induction k with
      | zero => simp [rszs]
      | succ k ih =>
        simp only [List.replicate_succ, rszs]
        omega
    have := this n
    simp only [rsz]
    omega
theorem two_head {W : WD} {R : Er → Prop} {p q : D} {t : GS} {E : Ed} (hp : Pk p) (hq : Pk q) (k : t E [.d p, .d q, .d (refD (o2 p q)), .d (lastD p q), .no, .no]) :
    gSeq (gSetT [2, 3] (ND.gTup (ND.gCons (gC .non) (ND.gCons (gC .non) ND.gNil))))
    (gSeq (gIfS (gNotT (gTru (gCall sp__law_is_golden W R (ND.gCons (gVar 0) ND.gNil)))) (gSet 2 (ND.gTup (ND.gCons (gC (.str "number")) (ND.gCons (gVar 0) ND.gNil)))) (gIfS (gNotT (gTru (gCall sp__law_is_golden W R (ND.gCons (gVar 1) ND.gNil)))) (gSet 2 (ND.gTup (ND.gCons (gC (.str "number")) (ND.gCons (gVar 1) ND.gNil)))) (gIfS (gAndT (gB (gBin eqD (gBin ixD (gVar 1) (gC (.int 0))) (gC (.int 0)))) (gB (gBin eqD (gBin ixD (gVar 1) (gC (.int 1))) (gC (.int 0))))) (gSet 3 (ND.gTup (ND.gCons (gC (.str "zero")) (ND.gCons (gC (.bl true)) ND.gNil)))) gSkip))) t) E [.d p, .d q, .no, .no, .no, .no] := by
  simp
  refine ⟨p, rfl, hp.rp, ?_⟩
  unfold o2 lastD at k
  cases h1 : isNum p
  · rw [if_neg (by simp [h1]), if_neg (by simp [h1])] at k
    simp
    exact k
  · rw [if_pos h1, if_pos h1] at k
    simp
    refine ⟨q, rfl, hq.rp, ?_⟩
    cases h2 : isNum q
    · rw [if_neg (by simp [h2]), if_neg (by simp [h2])] at k
      simp
      exact k
    · rw [if_pos h2, if_pos h2] at k
      simp
      obtain ⟨a, b, c, rfl, hc⟩ := num_n h2
      simp
      by_cases ha : a = 0
      · by_cases hb : b = 0
        · rw [if_pos (by simp [isZ, ha, hb])] at k
          simp [ha, hb]
          subst ha hb
          exact k
        · rw [if_neg (by simp [isZ, hb])] at k
          simp [ha, hb]
          subst ha
          exact k
      · rw [if_neg (by simp [isZ, ha])] at k
        simp [ha]
        exact k
theorem Ev.far {σ : List SV} {p q : D} (h2 : σ[2]? = some (.d (refD (o2 p q)))) (h3 : σ[3]? = some (.d (lastD p q))) : Ev σ (gIf (gB (gBin (isD true) (gVar 2) (gC .non))) (gVar 2) (gVar 3)) (refD (oq p q)) := ⟨fun Q k => by
  simp only [gIf, gB, gBin, gVar, gC, h2, h3]
  unfold o2 lastD oq at *
  cases h1 : isNum p
  · simp only [h1] at k
    simp [isD, refD]
    exact k
  · cases h4 : isNum q
    · simp only [h1, h4] at k
      simp [isD, refD]
      exact k
    · cases h5 : isZ q
      · simp only [h1, h4, h5] at k
        simp [isD, refD]
        exact k
      · simp only [h1, h4, h5] at k
        simp [isD, refD]
        exact k⟩
theorem len__law_two_right : ∀ W ds Q R, sp__law_two_right W ds Q R → ds.length = 2 := by
  rintro W ds Q R ⟨d, l, p, q, _, rfl, _⟩
  rfl
theorem law__law_two_right : ∀ W ds Q R, sp__law_two_right W ds Q R → g__law_two_right W R (endsD Q) (startD 6 ds) := by
  rintro W ds Q R ⟨d, l, p, q, rfl, rfl, hp, hq, k⟩
  unfold g__law_two_right
  refine two_head hp hq ?_
  refine seq_setL (EvA.cons (Ev.ref1 (o := o2 p q) (EvA.cons (Ev.var rfl) (EvA.cons (Ev.var rfl) EvA.nil)) fun Qd R h => in2 hp hq (by decide) (by decide) h) EvA.nil) (by simp) ?_
  show gSeq _ _ _ [.d p, .d q, .d (refD (o2 p q)), .d (lastD p q), .ol (List.replicate 1 (refD (o2 p q))), .no]
  refine app4 (Ev.ref1 (o := o2 p q) (EvA.cons (Ev.var rfl) (EvA.cons (Ev.var rfl) EvA.nil)) fun Qd R h => in2 hp hq (by decide) (by decide) h) (by decide) ?_
  refine app4 (Ev.ref1 (o := o2 p q) (EvA.cons (Ev.var rfl) (EvA.cons (Ev.var rfl) EvA.nil)) fun Qd R h => in_times hp hq h) (by decide) ?_
  refine app4 (Ev.ref1 (o := o2 p q) (EvA.cons (Ev.var rfl) (EvA.cons (Ev.var rfl) EvA.nil)) fun Qd R h => in2 hp hq (by decide) (by decide) h) (by decide) ?_
  refine app4 (Ev.ref1 (o := o2 p q) (EvA.cons (Ev.var rfl) (EvA.cons (Ev.var rfl) EvA.nil)) fun Qd R h => in2 hp hq (by decide) (by decide) h) (by decide) ?_
  refine app4 (Ev.refK (o := o2 p q) (EvA.cons (Ev.var rfl) (EvA.cons (Ev.var rfl) EvA.nil)) rfl fun Qd R h => in2 hp hq (by decide) (by decide) h) (by decide) ?_
  refine app4 (Ev.refK (o := o2 p q) (EvA.cons (Ev.var rfl) (EvA.cons (Ev.var rfl) EvA.nil)) rfl fun Qd R h => in2 hp hq (by decide) (by decide) h) (by decide) ?_
  refine app4 (Ev.refK (o := o2 p q) (EvA.cons (Ev.var rfl) (EvA.cons (Ev.var rfl) EvA.nil)) rfl fun Qd R h => in_times hp hq h) (by decide) ?_
  refine app4 (Ev.refK (o := o2 p q) (EvA.cons (Ev.var rfl) (EvA.cons (Ev.var rfl) EvA.nil)) rfl fun Qd R h => in2 hp hq (by decide) (by decide) h) (by decide) ?_
  refine app4 (Ev.refK (o := o2 p q) (EvA.cons (Ev.var rfl) (EvA.cons (Ev.var rfl) EvA.nil)) rfl fun Qd R h => in2 hp hq (by decide) (by decide) h) (by decide) ?_
  refine seq_setL (EvA.cons (Ev.ref1 (o := oq p q) (EvA.cons (Ev.var rfl) (EvA.cons (Ev.var rfl) EvA.nil)) fun Qd R h => in_quot hp hq h) EvA.nil) (by simp) ?_
  refine seq_app rfl (Ev.refK (o := oq p q) (EvA.cons (Ev.var rfl) (EvA.cons (Ev.var rfl) EvA.nil)) rfl fun Qd R h => in_quot hp hq h) (by simp) ?_
  show gRet _ _ [.d p, .d q, .d (refD (o2 p q)), .d (lastD p q), .d (.lst (List.replicate 10 (refD (o2 p q)))), .d (.lst (List.replicate 2 (refD (oq p q))))]
  refine ret_ev (x := .bl true) (Ev.andb (b := true) (Ev.same (x := .lst (List.replicate 10 (refD (o2 p q)))) (EvA.cons (Ev.var rfl) (EvA.cons (Ev.mulL (Ev.lst (EvA.cons (Ev.var rfl) EvA.nil) (by simp)) (by decide) (by decide) (by simp)) EvA.nil)) (rok_rep (pok_o2 hp hq) (by decide))) (fun _ => Ev.same (x := .lst (List.replicate 2 (refD (oq p q)))) (EvA.cons (Ev.var rfl) (EvA.cons (Ev.mulL (Ev.lst (EvA.cons (Ev.far rfl rfl) EvA.nil) (by simp)) (by decide) (by decide) (by simp)) EvA.nil)) (rok_rep (pok_oq hp hq) (by decide))) fun h => absurd h (by decide)) k
theorem len__law_one_right : ∀ W ds Q R, sp__law_one_right W ds Q R → ds.length = 1 := by
  rintro W ds Q R ⟨d, l, p, _, rfl, _⟩
  rfl
theorem Ev.due {σ : List SV} {W : WD} {R : Er → Prop} {p : D} (hp : Pk p) (h0 : σ[0]? = some (.d p)) : Ev σ (gIf (gTru (gCall sp__law_is_golden W R (ND.gCons (gVar 0) ND.gNil))) (gC .non) (ND.gTup (ND.gCons (gC (.str "number")) (ND.gCons (gVar 0) ND.gNil)))) (refD (o1 p)) := ⟨fun Q k => by
  simp only [gIf, gTru, gCall, ND.gCons, ND.gNil, gVar, gC, h0]
  refine ⟨p, rfl, hp.rp, ?_⟩
  unfold o1 at k
  cases h1 : isNum p
  · rw [if_neg (by simp [h1])] at k
    simp [h0]
    exact k
  · rw [if_pos h1] at k
    simp
    exact k⟩
theorem Ev.gold {σ : List SV} {W : WD} {R : Er → Prop} {fs : GA} {p : D} (h : EvA σ fs [p]) (hp : Pk p) : Ev σ (gCall sp_is_golden W R fs) (.bl (isNum p)) := ⟨fun Q q => h.run _ ⟨p, rfl, ty1_rp hp.rp, q⟩⟩
theorem Ev.goldK {σ : List SV} {W : WD} {R : Er → Prop} {fs : GA} {p : D} (h : EvA σ fs [p]) (hp : Pk p) : Ev σ (gCallK sp_is_golden 0 1 [0] W R ND.gNil fs) (.bl (isNum p)) := ⟨fun Q q => by
  show fs σ _
  refine h.run _ ?_
  exact ⟨p, rfl, ty1_rp hp.rp, q⟩⟩
theorem Ev.dueN {σ : List SV} {p : D} {i : Nat} (h : σ[i]? = some (.d (refD (o1 p)))) : Ev σ (gBin (isD false) (gVar i) (gC .non)) (.bl (isNum p)) := ⟨fun Q k => by
  simp only [gBin, gVar, gC, h]
  unfold o1
  cases h1 : isNum p
  · rw [h1] at k
    exact k
  · rw [h1] at k
    exact k⟩
theorem law__law_one_right : ∀ W ds Q R, sp__law_one_right W ds Q R → g__law_one_right W R (endsD Q) (startD 3 ds) := by
  rintro W ds Q R ⟨d, l, p, rfl, rfl, hp, k⟩
  unfold g__law_one_right
  refine seq_set (Ev.due hp rfl) ?_
  refine seq_setL (EvA.cons (Ev.ref1 (o := o1 p) (EvA.cons (Ev.var rfl) EvA.nil) fun Qd R h => in_red hp h) EvA.nil) (by simp) ?_
  show gSeq _ _ _ [.d p, .d (refD (o1 p)), .ol (List.replicate 1 (refD (o1 p)))]
  refine app2 (Ev.ref1 (o := o1 p) (EvA.cons (Ev.var rfl) EvA.nil) fun Qd R h => in1 hp (by decide) h) (by decide) ?_
  refine app2 (Ev.ref1 (o := o1 p) (EvA.cons (Ev.var rfl) EvA.nil) fun Qd R h => in1 hp (by decide) h) (by decide) ?_
  refine app2 (Ev.ref1 (o := o1 p) (EvA.cons (Ev.var rfl) EvA.nil) fun Qd R h => in1 hp (by decide) h) (by decide) ?_
  refine app2 (Ev.ref1 (o := o1 p) (EvA.cons (Ev.var rfl) EvA.nil) fun Qd R h => in1 hp (by decide) h) (by decide) ?_
  refine app2 (Ev.ref1 (o := o1 p) (EvA.cons (Ev.var rfl) EvA.nil) fun Qd R h => in1 hp (by decide) h) (by decide) ?_
  refine app2 (Ev.ref1 (o := o1 p) (EvA.cons (Ev.var rfl) EvA.nil) fun Qd R h => in1 hp (by decide) h) (by decide) ?_
  refine app2 (Ev.refK (o := o1 p) (EvA.cons (Ev.var rfl) EvA.nil) rfl fun Qd R h => in_red hp h) (by decide) ?_
  refine app2 (Ev.refK (o := o1 p) (EvA.cons (Ev.var rfl) EvA.nil) rfl fun Qd R h => in1 hp (by decide) h) (by decide) ?_
  refine app2 (Ev.refK (o := o1 p) (EvA.cons (Ev.var rfl) EvA.nil) rfl fun Qd R h => in1 hp (by decide) h) (by decide) ?_
  refine app2 (Ev.refK (o := o1 p) (EvA.cons (Ev.var rfl) EvA.nil) rfl fun Qd R h => in1 hp (by decide) h) (by decide) ?_
  refine app2 (Ev.refK (o := o1 p) (EvA.cons (Ev.var rfl) EvA.nil) rfl fun Qd R h => in1 hp (by decide) h) (by decide) ?_
  refine app2 (Ev.refK (o := o1 p) (EvA.cons (Ev.var rfl) EvA.nil) rfl fun Qd R h => in1 hp (by decide) h) (by decide) ?_
  refine app2 (Ev.refK (o := o1 p) (EvA.cons (Ev.var rfl) EvA.nil) rfl fun Qd R h => in1 hp (by decide) h) (by decide) ?_
  show gRet _ _ [.d p, .d (refD (o1 p)), .d (.lst (List.replicate 14 (refD (o1 p))))]
  refine ret_ev (x := .bl true) (Ev.andb (b := true) (Ev.same (x := .lst (List.replicate 14 (refD (o1 p)))) (EvA.cons (Ev.var rfl) (EvA.cons (Ev.mulL (Ev.lst (EvA.cons (Ev.var rfl) EvA.nil) (by simp)) (by decide) (by decide) (by simp)) EvA.nil)) (rok_rep (pok_o1 hp) (by decide))) (fun _ => Ev.same (x := .tup [.bl (isNum p), .bl (isNum p)]) (EvA.cons (Ev.tup (EvA.cons (Ev.gold (EvA.cons (Ev.var rfl) EvA.nil) hp) (EvA.cons (Ev.goldK (EvA.cons (Ev.var rfl) EvA.nil) hp) EvA.nil)) (by simp)) (EvA.cons (Ev.tup (EvA.cons (Ev.dueN rfl) (EvA.cons (Ev.dueN rfl) EvA.nil)) (by simp)) EvA.nil)) ?_) fun h => absurd h (by decide)) k
  cases isNum p
  · exact ⟨by decide +kernel, by decide +kernel, by decide +kernel, by decide +kernel⟩
  · exact ⟨by decide +kernel, by decide +kernel, by decide +kernel, by decide +kernel⟩
theorem len__law_is_floor_refused : ∀ W ds Q R, sp__law_is_floor_refused W ds Q R → ds.length = 1 := by
  rintro W ds Q R ⟨d, l, x, _, rfl, _⟩
  rfl
theorem flo_ty {x : D} (h : FloorD x) : Ty1 knownO x ∧ isNum x = false := by
  obtain ⟨ks, s, rfl, _⟩ := h
  exact ⟨ty1_obj knownO_Floor, rfl⟩
theorem law__law_is_floor_refused : ∀ W ds Q R, sp__law_is_floor_refused W ds Q R → g__law_is_floor_refused W R (endsD Q) (startD 3 ds) := by
  rintro W ds Q R ⟨d, l, x, rfl, rfl, hx, k⟩
  obtain ⟨ht, hn⟩ := flo_ty hx
  have g1 : ∀ {a b c : Int}, 1 ≤ c → isNum (tri a b c) = true := num_tri
  unfold g__law_is_floor_refused
  refine seq_setL (EvA.cons (Ev.ref1 (o := .bad x) (EvA.cons (Ev.var rfl) (EvA.cons (Ev.tup (EvA.cons Ev.c (EvA.cons Ev.c (EvA.cons Ev.c EvA.nil))) (by simp)) EvA.nil)) fun Qd R h => ⟨x, tri 1 0 1, rfl, ht, ty1_tri .., fun _ => h, fun e => absurd e (by simp [hn]), fun e => absurd e (by simp [hn])⟩) EvA.nil) (by simp) ?_
  refine seq_app rfl (Ev.ref1 (o := .bad x) (EvA.cons (Ev.tup (EvA.cons Ev.c (EvA.cons Ev.c (EvA.cons Ev.c EvA.nil))) (by simp)) (EvA.cons (Ev.var rfl) EvA.nil)) fun Qd R h => ⟨tri 0 0 1, x, rfl, ty1_tri .., ht, fun e => absurd ((g1 (a := 0) (b := 0) (c := 1) (by decide)).symm.trans e) (by simp), fun _ _ => h, fun _ e => absurd e (by simp [hn])⟩) (by simp) ?_
  refine seq_app rfl (Ev.ref1 (o := .bad x) (EvA.cons (Ev.var rfl) EvA.nil) fun Qd R h => ⟨x, rfl, ht, fun _ => h, fun e => absurd e (by simp [hn])⟩) (by simp) ?_
  refine seq_app rfl (Ev.refK (o := .bad x) (EvA.cons (Ev.var rfl) (EvA.cons (Ev.tup (EvA.cons Ev.c (EvA.cons Ev.c (EvA.cons Ev.c EvA.nil))) (by simp)) EvA.nil)) rfl fun Qd R h => ⟨tri 2 1 1, x, rfl, ty1_tri .., ht, fun e => absurd ((g1 (a := 2) (b := 1) (c := 1) (by decide)).symm.trans e) (by simp), fun _ _ => h, fun _ e => absurd e (by simp [hn])⟩) (by simp) ?_
  show gSeq (gFz 1 (gFor _ _ _)) _ _ [.d x, .ol [.tup [.str "number", x], .tup [.str "number", x], .tup [.str "number", x], .tup [.str "number", x]], .no]
  show gFor _ _ _ _ [.d x, .d (.lst [.tup [.str "number", x], .tup [.str "number", x], .tup [.str "number", x], .tup [.str "number", x]]), .no]
  obtain ⟨ks, s, rfl, h1, h2⟩ := id hx
  have e1 : ∀ fs, tyX knownO (.obj "Floor" fs) = true := fun _ => knownO_Floor
  have e2 : ∀ fs, isO "Floor" (.obj "Floor" fs) = true := fun _ => show (("Floor" : Str) == "Floor") = true by decide +kernel
  have step : ∀ {Q : D → Prop} {R : Er → Prop}, Q (.bl true) → sp_Floor__eq (some (d, l)) [.obj "Floor" [("all_keys", ks), ("side", s)], .obj "Floor" [("all_keys", ks), ("side", s)]] Q R := fun q => ⟨_, rfl, hx, q⟩
  simp [forG, isD, gIsO, eqX, e1, e2]
  refine step ?_
  simp
  refine step ?_
  simp
  refine step ?_
  simp
  refine step ?_
  simp
  refine ⟨_, rfl, ht, ?_⟩
  refine ⟨_, rfl, ⟨rfl, fun xs e y m => ?_⟩, ?_⟩
  · cases e
    simp only [List.mem_cons, List.not_mem_nil, or_false] at m
    rcases m with rfl | rfl | rfl
    · exact e1 _
    · rfl
    · rfl
  · exact ⟨.tup [.bl false, .bl false], rfl, ⟨by decide +kernel, by decide +kernel, by decide +kernel, by decide +kernel⟩, k⟩
theorem len__law_is_great_right : ∀ W ds Q R, sp__law_is_great_right W ds Q R → ds.length = 1 := by
  rintro W ds Q R ⟨d, l, _, rfl, _⟩
  rfl
theorem great_step {W : WD} {n : Nat} {a b : Int} {K : D → Prop} {R : Er → Prop} (ha : Sz n a) (hb : Sz n b) (hn : n ≤ 40000) (k : ∀ a' b', Sz (2 * n + 2) a' → Sz (2 * n + 2) b' → K (tri a' b' 1)) : sp_times W [tri a b 1, tri a b 1] K R := by
  have e1 : isNum (tri a b 1) = true := num_tri (by decide)
  have s1 : Sz 4400 (1 : Int) := by decide
  have s2 : Sz n (1 : Int) ∨ n = 0 := by
    cases n with
    | zero => exact .inr rfl
    | succ n => exact .inl ((show Sz 1 (1 : Int) by decide).mono (by omega))
  have nm : Nm 100000 4400 (tri a b 1) := ⟨a, b, 1, rfl, ⟨ha.mono (by omega), hb.mono (by omega), s1.mono (by decide), by decide⟩, s1⟩
  refine ⟨_, _, rfl, ty1_tri .., ty1_tri .., fun e => absurd (e1.symm.trans e) (by simp), fun _ e => absurd (e1.symm.trans e) (by simp), fun _ _ => ⟨nm, nm, ?_⟩⟩
  intro x y z x' y' z' e e'
  cases e
  cases e'
  rw [Int.one_mul, red_one]
  have aa := ha.mul ha
  have ab := ha.mul hb
  have ba := hb.mul ha
  have bb := hb.mul hb
  refine k _ _ ((aa.add bb).mono (by omega)) ?_
  have := (ab.add ba).add (bb.mono (show n + n ≤ n + n + 1 by omega))
  exact this.mono (by omega)
theorem bad_plus {W : WD} {x : D} (ht : Ty1 knownO x) (hn : isNum x = false) {Q : D → Prop} {R : Er → Prop} (h : refc (.bad x) Q R) : sp_plus W [x, tri 1 0 1] Q R := ⟨x, tri 1 0 1, rfl, ht, ty1_tri .., fun _ => h, fun e => absurd e (by simp [hn]), fun e => absurd e (by simp [hn])⟩
theorem bad_times {W : WD} {g x : D} (hg : Ty1 knownO g) (gn : isNum g = true) (ht : Ty1 knownO x) (hn : isNum x = false) {Q : D → Prop} {R : Er → Prop} (h : refc (.bad x) Q R) : sp_times W [g, x] Q R := ⟨g, x, rfl, hg, ht, fun e => absurd (gn.symm.trans e) (by simp), fun _ _ => h, fun _ e => absurd e (by simp [hn])⟩
section
variable {σ : List SV} {f g : GE} {x y : D} {s t : GS} {E : Ed}
theorem seq_or2 (a : Ev σ f (.bl false)) (b : Ev σ g (.bl false)) (q : t E σ) : gSeq (gIfS (gOrT (gB f) (gB g)) s gSkip) t E σ := a.run _ ⟨false, rfl, b.run _ ⟨false, rfl, q⟩⟩
theorem if_or2 (a : Ev σ f (.bl false)) (b : Ev σ g (.bl false)) (q : E.nx σ) : gIfS (gOrT (gB f) (gB g)) s gSkip E σ := a.run _ ⟨false, rfl, b.run _ ⟨false, rfl, q⟩⟩
theorem seq_or1 (a : Ev σ f (.bl false)) (q : t E σ) : gSeq (gIfS (gB f) s gSkip) t E σ := a.run _ ⟨false, rfl, q⟩
theorem Ev.isT {b : Bool} (a : Ev σ f (.bl b)) : Ev σ (gBin (isD true) f (gC (.bl b))) (.bl false) := ⟨fun Q q => a.run _ (by
  show Q (.bl (!decide (b = b)))
  simpa using q)⟩
theorem Ev.isN (a : Ev σ f .non) : Ev σ (gBin (isD true) f (gC .non)) (.bl false) := ⟨fun Q q => a.run _ q⟩
theorem Ev.neT {xs : List D} (a : Ev σ f (.tup xs)) (b : Ev σ g (.tup xs)) (h : pl 64 (.tup xs) = true) : Ev σ (gBin neD f g) (.bl false) := ⟨fun Q q => a.run _ (b.run _ (by
  show _ ∧ _ ∧ Q (.bl (!eqb _ _))
  rw [eqb_refl h]
  exact ⟨h, h, q⟩))⟩
theorem Ev.goldT {W : WD} {R : Er → Prop} {fs : GA} {p : D} (h : EvA σ fs [p]) (ht : Ty1 knownO p) {b : Bool} (e : isNum p = b) : Ev σ (gCall sp_is_golden W R fs) (.bl b) := ⟨fun Q q => h.run _ ⟨p, rfl, ht, by rw [e]; exact q⟩⟩
theorem for_cons {gt : GG} {h : GS} {xs : List D} (q : gt x σ fun σ' => h { E with nx := forG gt h xs E, ct := forG gt h xs E, bk := E.nx } σ') : forG gt h (x :: xs) E σ := q
theorem set_call {W : WD} {R : Er → Prop} {sp : DSp} {fs : GA} {xs : List D} {k : Nat} (a : EvA σ fs xs) (q : sp W xs (fun x => E.nx (σ.set k (.d x))) R) : gSet k (gCall sp W R fs) E σ := a.run _ q
theorem seq_for {fs : GA} {xs : List D} {gt : GG} {h : GS} (a : EvA σ fs xs) (hl : xs.length ≤ sizeLine) (q : forG gt h xs { E with nx := t E } σ) : gSeq (gFor (gIter (ND.gTup fs)) gt h) t E σ := a.run _ ⟨hl, q⟩
end
/-- no number, but one may compare it -/
def NoN (x : D) : Prop := Ty1 knownO x ∧ isNum x = false ∧ pl 63 x = true
theorem NoN.pl {x : D} (h : NoN x) : ND.pl 64 (.tup [.str "number", x]) = true := by
  have := h.2.2
  simp only [ND.pl, pls, this, Bool.and_true]
  decide +kernel
theorem non_tup {xs : List D} (h : ∀ y ∈ xs, (∃ i, y = .int i) ∨ y = .non) (hn : isNum (.tup xs) = false) : NoN (.tup xs) := by
  refine ⟨⟨rfl, fun ys e y m => ?_⟩, hn, ?_⟩
  · cases e
    rcases h y m with ⟨i, rfl⟩ | rfl <;> rfl
  · simp only [ND.pl, pls_all, List.all_eq_true]
    intro y m
    rcases h y m with ⟨i, rfl⟩ | rfl <;> rfl
theorem law__law_is_great_right : ∀ W ds Q R, sp__law_is_great_right W ds Q R → g__law_is_great_right W R (endsD Q) (startD 7 ds) := by
  rintro W ds Q R ⟨d, l, rfl, rfl, q⟩
  unfold g__law_is_great_right
  refine seq_setP (P := fun x => ∃ i, x = .int i ∧ Sz 3000 i) ⟨fun K k => ?_⟩ ?_
  · simp [startD]
    refine dr (by decide) (by decide) fun r r0 r1 => ?_
    obtain ⟨i, e1, e2, i0, i1⟩ := nine_text (k := (900 - r).toNat) (by omega) (by omega)
    have e3 : (((900 - r).toNat : Nat) : Int) = 900 - r := by omega
    rw [e3] at e1 e2
    refine ⟨by omega, ?_, by decide, i, e1, e2, k _ ⟨i, rfl, ?_⟩⟩
    · exact Nat.le_trans (show _ ≤ 1000 by simp [show (Str.ofString "9").length = 1 by decide]; omega) (by decide)
    · refine ten_sz (k := 150) i0 (Int.lt_of_lt_of_le i1 ?_)
      exact_mod_cast Nat.pow_le_pow_right (show 0 < 10 by decide) (show (900 - r).toNat ≤ 6 * 150 by omega)
  rintro _ ⟨i, rfl, hi⟩
  show gSeq _ _ _ [.d (dkD d), .d (.int i), .no, .no, .no, .no, .no]
  refine seq_setP (P := fun x => ∃ a b, x = tri a b 1 ∧ Sz 3020 a ∧ Sz 3020 b) ⟨fun K k => ?_⟩ ?_
  · simp
    refine dr (by decide) (by decide) fun r r0 r1 => ?_
    have s2 : Sz 20 (1 - r) := Sz.small (by omega) (by omega)
    simp
    exact ⟨hi.ok s2 (by decide), k _ ⟨_, _, rfl, hi.mono (by decide), (hi.mul s2).mono (by decide)⟩⟩
  rintro _ ⟨a, b, rfl, ha, hb⟩
  show gSeq _ _ _ [.d (dkD d), .d (.int i), .d (tri a b 1), .no, .no, .no, .no]
  refine seq_rng (by decide) (by decide) ?_
  show forG _ _ [.int 0, .int 1, .int 2] _ _
  refine for_cons ?_
  show gSet 2 _ _ [.d (dkD d), .d (.int i), .d (tri a b 1), .d (.int 0), .no, .no, .no]
  refine set_call (EvA.cons (Ev.var rfl) (EvA.cons (Ev.var rfl) EvA.nil)) ?_
  refine great_step ha hb (by decide) fun a b ha hb => ?_
  dsimp only
  refine for_cons ?_
  show gSet 2 _ _ [.d (dkD d), .d (.int i), .d (tri a b 1), .d (.int 1), .no, .no, .no]
  refine set_call (EvA.cons (Ev.var rfl) (EvA.cons (Ev.var rfl) EvA.nil)) ?_
  refine great_step ha hb (by decide) fun a b ha hb => ?_
  dsimp only
  refine for_cons ?_
  show gSet 2 _ _ [.d (dkD d), .d (.int i), .d (tri a b 1), .d (.int 2), .no, .no, .no]
  refine set_call (EvA.cons (Ev.var rfl) (EvA.cons (Ev.var rfl) EvA.nil)) ?_
  refine great_step ha hb (by decide) fun a b ha hb => ?_
  dsimp only [forG]
  show gSeq _ _ _ [.d (dkD d), .d (.int i), .d (tri a b 1), .d (.int 2), .no, .no, .no]
  have en : isNum (tri a b 1) = true := num_tri (by decide)
  have s1 : Sz 4400 (1 : Int) := by decide
  have nm : Nm 100000 4400 (tri a b 1) := ⟨a, b, 1, rfl, ⟨ha.mono (by decide), hb.mono (by decide), s1.mono (by decide), by decide⟩, s1⟩
  have e1 : isNum (tri 1 0 1) = true := num_tri (by decide)
  have nm1 : Nm 100000 4400 (tri 1 0 1) := ⟨1, 0, 1, rfl, ⟨s1.mono (by decide), (show Sz 4400 (0 : Int) by decide).mono (by decide), s1.mono (by decide), by decide⟩, s1⟩
  refine seq_or2 (Ev.isT (Ev.goldT (EvA.cons (Ev.var rfl) EvA.nil) (ty1_tri ..) en)) (Ev.isN (Ev.ref1 (o := .none) (EvA.cons (Ev.var rfl) (EvA.cons (Ev.tup (EvA.cons Ev.c (EvA.cons Ev.c (EvA.cons Ev.c EvA.nil))) (by simp)) EvA.nil)) fun Qd R h => ⟨tri a b 1, tri 1 0 1, rfl, ty1_tri .., ty1_tri .., fun e => absurd (en.symm.trans e) (by simp), fun _ e => absurd (e1.symm.trans e) (by simp), fun _ _ => ⟨nm, nm1, h⟩⟩)) ?_
  refine seq_for (xs := [.tup [.int a, .int b], .tup [.int a, .int b, .int 0], .tup [.int a, .int b, .int (-1)], .tup [.int a, .int b, .int 1, .int 1], .tup [.int a, .non, .int 1]]) (EvA.cons (Ev.slHi (xs := [.int a, .int b, .int 1]) (Ev.var rfl) Ev.c) (EvA.cons (Ev.addT (xs := [.int a, .int b]) (ys := [.int 0]) (Ev.slHi (xs := [.int a, .int b, .int 1]) (Ev.var rfl) Ev.c) (Ev.tup (EvA.cons Ev.c EvA.nil) (by simp)) ?z1) (EvA.cons (Ev.addT (xs := [.int a, .int b]) (ys := [.int (-1)]) (Ev.slHi (xs := [.int a, .int b, .int 1]) (Ev.var rfl) Ev.c) (Ev.tup (EvA.cons (Ev.neg Ev.c) EvA.nil) (by simp)) ?z2) (EvA.cons (Ev.addT (xs := [.int a, .int b, .int 1]) (ys := [.int 1]) (Ev.var rfl) (Ev.tup (EvA.cons Ev.c EvA.nil) (by simp)) ?z3) (EvA.cons (Ev.tup (EvA.cons (Ev.ixt (Ev.var rfl) Ev.c rfl) (EvA.cons Ev.c (EvA.cons Ev.c EvA.nil))) (by simp)) EvA.nil))))) (by simp) ?_
  case z1 => exact show 3 ≤ sizeLine by decide
  case z2 => exact show 3 ≤ sizeLine by decide
  case z3 => exact show 4 ≤ sizeLine by decide
  have good : ∀ x ∈ [D.tup [.int a, .int b], .tup [.int a, .int b, .int 0], .tup [.int a, .int b, .int (-1)], .tup [.int a, .int b, .int 1, .int 1], .tup [.int a, .non, .int 1]], NoN x := by
    simp only [List.forall_mem_cons, List.not_mem_nil, false_implies, implies_true, and_true]
    refine ⟨non_tup (by simp) rfl, non_tup (by simp) rfl, non_tup (by simp) rfl, non_tup (by simp) rfl, non_tup (by simp) rfl⟩
  refine forG_inv (fun ds σ => (∀ x ∈ ds, NoN x) ∧ ∃ v4 v5 v6, σ = [.d (dkD d), .d (.int i), .d (tri a b 1), .d (.int 2), v4, v5, v6]) ?_ ?_ _ _ ⟨good, _, _, _, rfl⟩
  · rintro σ ⟨_, v4, v5, v6, rfl⟩
    exact q
  · rintro x xs σ ⟨hg, v4, v5, v6, rfl⟩ E' _ _ hnx _
    have hx := hg x List.mem_cons_self
    show gSeq _ _ E' [.d (dkD d), .d (.int i), .d (tri a b 1), .d (.int 2), .d x, v5, v6]
    refine seq_or1 (Ev.isT (Ev.goldT (EvA.cons (Ev.var rfl) EvA.nil) hx.1 hx.2.1)) ?_
    refine seq_set (Ev.ref1 (o := .bad x) (EvA.cons (Ev.var rfl) (EvA.cons (Ev.tup (EvA.cons Ev.c (EvA.cons Ev.c (EvA.cons Ev.c EvA.nil))) (by simp)) EvA.nil)) fun Qd R h => bad_plus hx.1 hx.2.1 h) ?_
    refine seq_set (Ev.refK (o := .bad x) (EvA.cons (Ev.var rfl) (EvA.cons (Ev.var rfl) EvA.nil)) rfl fun Qd R h => bad_times (ty1_tri ..) en hx.1 hx.2.1 h) ?_
    show gIfS _ _ _ E' [.d (dkD d), .d (.int i), .d (tri a b 1), .d (.int 2), .d x, .d (.tup [.str "number", x]), .d (.tup [.str "number", x])]
    refine if_or2 (Ev.neT (Ev.var rfl) (Ev.tup (EvA.cons Ev.c (EvA.cons (Ev.var rfl) EvA.nil)) (by simp)) hx.pl) (Ev.neT (Ev.var rfl) (Ev.tup (EvA.cons Ev.c (EvA.cons (Ev.var rfl) EvA.nil)) (by simp)) hx.pl) ?_
    exact hnx _ ⟨fun y m => hg y (List.mem_cons_of_mem _ m), _, _, _, rfl⟩
section
variable {σ : List SV} {f g h : GE} {s t : GS} {E : Ed}
theorem seq_three (a : Ev σ f (.bl true)) (b : Ev σ g (.bl true)) (c : Ev σ h (.bl true)) (q : t E σ) : gSeq (gIfS (gOrT (gNotT (gTru f)) (gOrT (gNotT (gTru g)) (gNotT (gTru h)))) s gSkip) t E σ := by
  refine a.run _ ?_
  simp
  refine b.run _ ?_
  simp
  refine c.run _ ?_
  simpa using q
theorem if_three (a : Ev σ f (.bl true)) (b : Ev σ g (.bl true)) (c : Ev σ h (.bl true)) (q : E.nx σ) : gIfS (gOrT (gNotT (gTru f)) (gOrT (gNotT (gTru g)) (gNotT (gTru h)))) s gSkip E σ := by
  refine a.run _ ?_
  simp
  refine b.run _ ?_
  simp
  refine c.run _ ?_
  simpa using q
end
theorem pok_two {x y : D} (h1 : Pk x) (h2 : Pk y) : Pok 7 400 500000 (.tup [x, y]) := by
  refine ⟨?_, ?_, ?_⟩
  · simp only [rp, rps, Bool.and_eq_true]
    exact ⟨h1.r, h2.r, trivial⟩
  · simp only [sm, sms, Bool.and_eq_true]
    exact ⟨h1.b, h2.b, trivial⟩
  · have := h1.z
    have := h2.z
    simp only [rsz, rszs]
    omega
theorem pk_ints {ys : List D} (h : ∀ y ∈ ys, ∃ i, y = .int i ∧ Sz 260 i) (hl : ys.length ≤ 5) : Pk (.tup ys) := (int_tup' h).1.up (by decide) (by decide) (by omega)
theorem law_law : ∀ (d l : Addr) (v : V), g_law (some (d, l)) (fun _ => False) (endsD fun r => r = .bl true) (.d (.opq v) :: .d (.opq (.ref d)) :: List.replicate 5 .no) := by
  intro d l v
  have val : ∀ σ : List SV, σ[1]? = some (.d (dkD d)) → EvP σ (gCall sp__law_value (some (d, l)) (fun _ => False) (ND.gCons (gVar 1) ND.gNil)) Pk := fun σ e => ⟨fun Q q => by
    simp [e]
    exact ⟨d, l, rfl, rfl, q⟩⟩
  have one : ∀ {σ : List SV} {fs : GA} {x : D}, EvA σ fs [x] → Pk x → Ev σ (gCall sp__law_one_right (some (d, l)) (fun _ => False) fs) (.bl true) := fun a hx => ⟨fun Q q => a.run _ ⟨d, l, _, rfl, rfl, hx, q⟩⟩
  have two : ∀ {σ : List SV} {fs : GA} {x y : D}, EvA σ fs [x, y] → Pk x → Pk y → Ev σ (gCall sp__law_two_right (some (d, l)) (fun _ => False) fs) (.bl true) := fun a hx hy => ⟨fun Q q => a.run _ ⟨d, l, _, _, rfl, rfl, hx, hy, q⟩⟩
  have int2 : ∀ R (Q : D → Prop), (∀ i, Sz 60 i → Q (.int i)) → sp__law_integer (some (d, l)) [dkD d, .int 2] Q R := fun R Q h => ⟨d, l, 2, rfl, rfl, by decide, by decide, h⟩
  unfold g_law
  refine seq_rng (by decide) (by decide) ?_
  refine forG_inv (fun ds σ => ∃ s2 s3 s4 s5 s6, σ = [.d (.opq v), .d (dkD d), s2, s3, s4, s5, s6]) ?_ ?_ _ _ ⟨_, _, _, _, _, rfl⟩
  · rintro σ ⟨s2, s3, s4, s5, s6, rfl⟩
    dsimp only
    refine seq_setP (P := fun x => ∃ a b, x = tri a b 1 ∧ Sz 260 a ∧ Sz 260 b) ⟨fun K k => ?_⟩ ?_
    · show sp__law_draw _ [dkD d, .int 50] (fun x => subD (.int 250) x fun y => sp_power (some (d, l)) [y] K fun _ => False) fun _ => False
      refine dr (by decide) (by decide) fun r r0 r1 => ?_
      show sp_power (some (d, l)) [.int (250 - r)] K fun _ => False
      exact ⟨250 - r, rfl, by omega, by omega, fun a b ha hb => k _ ⟨a, b, rfl, ha, hb⟩⟩
    rintro _ ⟨a, b, rfl, ha, hb⟩
    show gSeq _ _ _ [.d (.opq v), .d (dkD d), s2, .d (tri a b 1), s4, s5, s6]
    have i1 : ∃ i, D.int 1 = .int i ∧ Sz 260 i := ⟨1, rfl, by decide⟩
    have ia : ∃ i, D.int a = .int i ∧ Sz 260 i := ⟨a, rfl, ha⟩
    have ib : ∃ i, D.int b = .int i ∧ Sz 260 i := ⟨b, rfl, hb⟩
    have ina : ∃ i, D.int (-a) = .int i ∧ Sz 260 i := ⟨-a, rfl, ha.neg⟩
    refine seq_three (one (EvA.cons (Ev.var rfl) EvA.nil) (pk_ints (ys := [.int a, .int b, .int 1]) ?y1 (by simp))) (one (x := .tup [.int b, .int 1, .int (-a)]) (EvA.cons (Ev.addT (xs := [.int b, .int 1]) (ys := [.int (-a)]) (Ev.slLo (xs := [.int a, .int b, .int 1]) (Ev.var rfl) Ev.c) (Ev.tup (EvA.cons (Ev.neg (Ev.ixt (Ev.var rfl) Ev.c rfl)) EvA.nil) (by simp)) ?z1) EvA.nil) (pk_ints ?y2 (by simp))) (one (x := .tup [.int a, .int b]) (EvA.cons (Ev.slHi (xs := [.int a, .int b, .int 1]) (Ev.var rfl) Ev.c) EvA.nil) (pk_ints ?y3 (by simp))) ?_
    case z1 => exact show 3 ≤ sizeLine by decide
    case y1 => simp only [List.forall_mem_cons, List.not_mem_nil, false_implies, implies_true, and_true]; exact ⟨ia, ib, i1⟩
    case y2 => simp only [List.forall_mem_cons, List.not_mem_nil, false_implies, implies_true, and_true]; exact ⟨ib, i1, ina⟩
    case y3 => simp only [List.forall_mem_cons, List.not_mem_nil, false_implies, implies_true, and_true]; exact ⟨ia, ib⟩
    refine seq_ok ⟨fun Q q => ⟨d, l, rfl, rfl, q⟩⟩ ?_
    simp
    refine int2 _ _ fun i hi => ?_
    have s3 : Sz 20 (3 : Int) := by decide
    simp
    refine ⟨s3.ok hi (by decide), ?_⟩
    refine int2 _ _ fun j hj => ?_
    simp
    refine ⟨s3.ok hj (by decide), ?_⟩
    refine ⟨_, _, rfl, ⟨i, j, rfl, rfl, hi.mono (by decide), hj.mono (by decide)⟩, fun z hz => ?_⟩
    exact ⟨d, l, z, rfl, rfl, hz, rfl⟩
  · rintro x xs σ ⟨s2, s3, s4, s5, s6, rfl⟩ E' _ _ hnx _
    show gSeq _ _ E' [.d (.opq v), .d (dkD d), .d x, s3, s4, s5, s6]
    refine seq_par2 (val _ rfl) (val _ rfl) fun p q hp hq => ?_
    show gSeq _ _ E' [.d (.opq v), .d (dkD d), .d x, s3, .d p, .d q, s6]
    refine seq_ifI (P := fun σ' => ∃ q, Pk q ∧ σ' = [.d (.opq v), .d (dkD d), .d x, s3, .d p, .d q, s6]) ⟨fun Q k => ?_⟩ ?_ (fun rest => ?_) fun rest => ?_
    · exact dr (R := fun _ => False) (k := 6) (Q := fun x => eqD x (.int 0) Q) (by decide) (by decide) fun r r0 r1 => by
        simp
        exact k _ ⟨_, rfl⟩
    · rintro σ' ⟨q, hq, rfl⟩
      have pk := pok_two hp hq
      have rk := pk.rok (by decide) (by decide) (by decide) (by simp [toPy, isDct])
      refine seq_set (Ev.repr (Ev.tup (EvA.cons (Ev.var rfl) (EvA.cons (Ev.var rfl) EvA.nil)) (by simp)) rk) ?_
      generalize htx : (toPy (D.tup [p, q])).shown = txt
      show gIfS _ _ _ E' [.d (.opq v), .d (dkD d), .d x, s3, .d p, .d q, .d (.str txt)]
      refine if_three (two (EvA.cons (Ev.var rfl) (EvA.cons (Ev.var rfl) EvA.nil)) hp hq) (one (EvA.cons (Ev.var rfl) EvA.nil) hp) (Ev.same (x := .str txt) (EvA.cons (by rw [← htx]; exact Ev.repr (Ev.tup (EvA.cons (Ev.var rfl) (EvA.cons (Ev.var rfl) EvA.nil)) (by simp)) rk) (EvA.cons (Ev.var rfl) EvA.nil)) ?_) (hnx _ ⟨_, _, _, _, _, rfl⟩)
      rw [← htx]
      exact pk.text (by decide) (by decide) (by decide)
    · exact rest _ ⟨p, hp, rfl⟩
    · exact rest _ ⟨q, hq, rfl⟩
set_option maxHeartbeats 8000000
section
variable {P : Program} {w : World} {K : PySem.W.Frag} {mg : Str → Option Value} {base : Heap} {T : List (Addr × Str)}
theorem ok__law_draw {f : Addr} {fd : FuncData} (bt : Bt mg) (hm : mg "_law_draw" = some (.ref f)) (F : Fun K "_law_draw" "_law_draw" (top 61) f fd) : OkD P w K mg base T "_law_draw" (top 61) 1 ["_law_deck_here", "_law_many"] spDraw := by
  refine ⟨f, fd, hm, F, okDraw (c := 62989) F sc__law_draw rfl rfl (small64 (by decide) (by decide)) fun cdv A outer s H E hr => ?_⟩
  have hu := hu_of hr
  have h64 := hr.units
  have nd := sc__law_draw.nd
  have it : ∀ {t : Str}, t = t := rfl
  exact pss_cons (ps_dput hu (pv 0) pe_str (pe_op op_add (pe_dget hu (pv 0) pe_str nosl) pe_int) rfl)
    (pss_cons (ps_set (i := 2) nd rfl (Or.inl rfl) (pe_op op_add (pe_dget hu (pv 0) pe_str nosl) (pe_op op_mul pe_int (pe_dget hu (pv 0) pe_str nosl))))
    (pss_cons (ps_if (pt_cmpR (op_neD h64) (pe_dget hu (pv 0) pe_str nosl) (pe_lst pa_nil) (nomark _))
      (pss_cons (ps_set (i := 3) nd rfl (Or.inl rfl) (pe_bm0 PySem.F.plainAttrs_list PySem.F.slot_list_pop PySem.F.type_list_pop mt_pop (pe_dget hu (pv 0) pe_str nosl)))
      (pss_cons (ps_if (pt_cmpR op_ge (pv 3) (pe_op op_pow pe_int pe_int) (nomark _))
        (pss_cons (ps_expr (pe_bm PySem.F.plainAttrs_list PySem.F.slot_list_append PySem.F.type_list_append mt_append (pe_dget hu (pv 0) pe_str nosl) (pa_cons (pe_op op_fdivW (pv 3) (pe_callB (call_max2 rfl) rfl bt.b_max nbMax (pa_cons pe_int (pa_cons (pv 1) pa_nil)))) pa_nil)))
        (pss_one (ps_ret (pe_op op_mod (pe_callTy call_int1 rfl bt.b_int nbInt (pa_cons (pv 3) pa_nil)) (pv 1)))))
        pss_nil)
      (pss_one (ps_set (i := 2) nd rfl (Or.inl rfl) (pe_op op_add (pv 2) (pe_op op_mod (pe_callTy call_int1 rfl bt.b_int nbInt (pa_cons (pv 3) pa_nil)) pe_int))))))
      pss_nil)
    (pss_cons (ps_set (i := 2) nd rfl (Or.inl rfl) (pe_op op_mod (pe_callTy call_int1 rfl bt.b_int nbInt (pa_cons (pe_op op_add (pe_op op_mul (pv 2) pe_int) pe_int) pa_nil)) pe_int))
    (pss_cons (ps_set (i := 2) nd rfl (Or.inl rfl) (pe_op op_mod (pe_callTy call_int1 rfl bt.b_int nbInt (pa_cons (pe_op op_add (pe_op op_add (pe_op op_mul (pv 2) (pv 2)) (pe_op op_mul pe_int (pe_dget hu (pv 0) pe_str nosl))) pe_int) pa_nil)) pe_int))
    (pss_cons (ps_set (i := 2) nd rfl (Or.inl rfl) (pe_op op_mod (pe_callTy call_int1 rfl bt.b_int nbInt (pa_cons (pe_op op_mul (pv 2) pe_int) pa_nil)) pe_int))
    (pss_one (ps_ret (pe_op op_mod (pe_callTy call_int1 rfl bt.b_int nbInt (pa_cons (pe_op op_fdivW (pv 2) pe_int) pa_nil)) (pv 1)))))))))
theorem ok__law_deck {f : Addr} {fd : FuncData} (bt : Bt mg) (F : Fun K "_law_deck" "_law_deck" (top 60) f fd) : FnOk P w K mg base (L2.CX P w) 1 f fd ["_law_script"] (spDeck K) := by
  refine okDeck (c := 10879010) (b := 103) F sc__law_deck rfl rfl (by decide) fun cdv A outer s H E hr => ?_
  have nd := sc__law_deck.nd
  exact pss_cons (ps_set (i := 1) nd rfl (Or.inl rfl) pe_int)
    (pss_cons (ps_for (passes_of rfl) rfl (pi_list (pe_slice sl_list (pv 0) po_none (po_some pe_int))) (pg_name (i := 2) nd rfl (Or.inl rfl))
      (pss_one (ps_set (i := 1) nd rfl (Or.inl rfl) (pe_op op_mod (pe_callTy call_int1 rfl bt.b_int nbInt (pa_cons (pe_op op_add (pe_op op_add (pe_op op_mul (pv 1) pe_int) (pe_op op_mod (pe_callTy call_int1 rfl bt.b_int nbInt (pa_cons (pv 2) pa_nil)) pe_int)) pe_int) pa_nil)) pe_int))))
    (pss_one (ps_ret (pe_disp (pps_cons pe_str (pe_revL (pe_callTy call_list_of rfl bt.b_list nbList (pa_cons (pe_slice sl_list (pv 0) po_none (po_some pe_int)) pa_nil))) (pps_cons pe_str (pv 1) (pps_cons pe_str pe_int pps_nil))) rfl rfl (by simp) (by decide)))))
theorem ok_is_integer {f : Addr} {fd : FuncData} (bt : Bt mg) (ct : Ct K mg) (hm : mg "is_integer" = some (.ref f)) (F : Fun K "is_integer" "is_integer" (top 11) f fd)  : OkD P w K mg base T "is_integer" (top 11) 1 ["thing"] sp_is_integer := by
  refine ⟨f, fd, hm, F, okD (g := g_is_integer) F sc_is_integer len_is_integer (fun cdv A outer s H E W F R hr hE hp hx => ?_) law_is_integer⟩
  have nd := sc_is_integer.nd
  have hu65 := hu65_of hr
  exact (sds_one (sd_ret (ed_and (ed_callB (c_isiX ct.ob) (by rfl) bt.b_isinstance nbIsi (abd_cons (ed_var 0 (pv 0)).toB (abd_cons (ed_ty (by rfl) bt.b_int nbInt).toB abd_nil))) (ed_one (ed_not (ed_callB (c_isiX ct.ob) (by rfl) bt.b_isinstance nbIsi (abd_cons (ed_var 0 (pv 0)).toB (abd_cons (ed_ty (by rfl) bt.b_bool nbBool).toB abd_nil))).toB)))))
theorem ok_normal {f : Addr} {fd : FuncData} (bt : Bt mg) (ct : Ct K mg) (hm : mg "normal" = some (.ref f)) (F : Fun K "normal" "normal" (top 13) f fd)  : OkD P w K mg base T "normal" (top 13) 1 ["a", "b", "d"] sp_normal := by
  refine ⟨f, fd, hm, F, okD (g := g_normal) F sc_normal len_normal (fun cdv A outer s H E W F R hr hE hp hx => ?_) law_normal⟩
  have nd := sc_normal.nd
  have hu65 := hu65_of hr
  exact (sds_cons (sd_set (i := 3) nd rfl (Or.inl rfl) (ed_callFun c_gcd (by rfl) bt.f_gcd (abd_cons (ed_callFun c_gcd (by rfl) bt.f_gcd (abd_cons (ed_var 0 (pv 0)).toB (abd_cons (ed_var 1 (pv 1)).toB abd_nil))).toB (abd_cons (ed_var 2 (pv 2)).toB abd_nil))))
      (sds_cons (sd_if (td_cmp o_lt (ed_var 2 (pv 2)).toB ed_int.toB (nomark _)) (sds_one (sd_set (i := 3) nd rfl (Or.inl rfl) (ed_un o_neg (ed_var 3 (pv 3)).toB))) sds_nil)
      (sds_one (sd_ret (ed_tup (ad_cons (ed_bin o_fdivA (ed_var 0 (pv 0)).toB (ed_var 3 (pv 3)).toB) (ad_cons (ed_bin o_fdivA (ed_var 1 (pv 1)).toB (ed_var 3 (pv 3)).toB) (ad_cons (ed_bin o_fdivA (ed_var 2 (pv 2)).toB (ed_var 3 (pv 3)).toB) ad_nil))))))))
theorem ok_pair_sign {f : Addr} {fd : FuncData} (bt : Bt mg) (ct : Ct K mg) (hm : mg "pair_sign" = some (.ref f)) (F : Fun K "pair_sign" "pair_sign" (top 14) f fd)  : OkD P w K mg base T "pair_sign" (top 14) 1 ["a", "b"] sp_pair_sign := by
  refine ⟨f, fd, hm, F, okD (g := g_pair_sign) F sc_pair_sign len_pair_sign (fun cdv A outer s H E W F R hr hE hp hx => ?_) law_pair_sign⟩
  have nd := sc_pair_sign.nd
  have hu65 := hu65_of hr
  exact (sds_cons (sd_set (i := 2) nd rfl (Or.inl rfl) (ed_bin o_add (ed_bin o_mul ed_int.toB (ed_var 0 (pv 0)).toB).toB (ed_var 1 (pv 1)).toB))
      (sds_cons (sd_if (wd_and (td_cmp o_ge (ed_var 2 (pv 2)).toB ed_int.toB (nomark _)) (wd_and1 (td_cmp o_ge (ed_var 1 (pv 1)).toB ed_int.toB (nomark _)))).t (sds_one (sd_ret (ed_if (wd_or (td_cmp o_gt (ed_var 2 (pv 2)).toB ed_int.toB (nomark _)) (wd_or1 (td_cmp o_gt (ed_var 1 (pv 1)).toB ed_int.toB (nomark _)))).t ed_int ed_int))) sds_nil)
      (sds_cons (sd_if (wd_and (td_cmp o_le (ed_var 2 (pv 2)).toB ed_int.toB (nomark _)) (wd_and1 (td_cmp o_le (ed_var 1 (pv 1)).toB ed_int.toB (nomark _)))).t (sds_one (sd_ret (ed_un o_neg ed_int.toB))) sds_nil)
      (sds_cons (sd_set (i := 3) nd rfl (Or.inl rfl) (ed_cmp o_gt (ed_bin o_mul (ed_var 2 (pv 2)).toB (ed_var 2 (pv 2)).toB).toB (ed_bin o_mul (ed_bin o_mul ed_int.toB (ed_var 1 (pv 1)).toB).toB (ed_var 1 (pv 1)).toB).toB (nomark _)))
      (sds_cons (sd_if (td_cmp o_gt (ed_var 2 (pv 2)).toB ed_int.toB (nomark _)) (sds_one (sd_ret (ed_if (td_val (ed_var 3 (pv 3)).toB) ed_int (ed_un o_neg ed_int.toB)))) sds_nil)
      (sds_one (sd_ret (ed_if (td_val (ed_var 3 (pv 3)).toB) (ed_un o_neg ed_int.toB) ed_int))))))))
theorem ok_negative {f : Addr} {fd : FuncData} (bt : Bt mg) (ct : Ct K mg) (hm : mg "negative" = some (.ref f)) (F : Fun K "negative" "negative" (top 17) f fd)  : OkD P w K mg base T "negative" (top 17) 1 ["one"] sp_negative := by
  refine ⟨f, fd, hm, F, okD (g := g_negative) F sc_negative len_negative (fun cdv A outer s H E W F R hr hE hp hx => ?_) law_negative⟩
  have nd := sc_negative.nd
  have hu65 := hu65_of hr
  exact (sds_one (sd_ret (ed_tup (ad_cons (ed_un o_neg (ed_ix (ed_var 0 (pv 0)).toB ed_int.toB).toB) (ad_cons (ed_un o_neg (ed_ix (ed_var 0 (pv 0)).toB ed_int.toB).toB) (ad_cons (ed_ix (ed_var 0 (pv 0)).toB ed_int.toB) ad_nil))))))
theorem ok_times_g {f : Addr} {fd : FuncData} (bt : Bt mg) (ct : Ct K mg) (hm : mg "times_g" = some (.ref f)) (F : Fun K "times_g" "times_g" (top 21) f fd)  : OkD P w K mg base T "times_g" (top 21) 1 ["one"] sp_times_g := by
  refine ⟨f, fd, hm, F, okD (g := g_times_g) F sc_times_g len_times_g (fun cdv A outer s H E W F R hr hE hp hx => ?_) law_times_g⟩
  have nd := sc_times_g.nd
  have hu65 := hu65_of hr
  exact (sds_one (sd_ret (ed_tup (ad_cons (ed_ix (ed_var 0 (pv 0)).toB ed_int.toB) (ad_cons (ed_bin o_add (ed_ix (ed_var 0 (pv 0)).toB ed_int.toB).toB (ed_ix (ed_var 0 (pv 0)).toB ed_int.toB).toB) (ad_cons (ed_ix (ed_var 0 (pv 0)).toB ed_int.toB) ad_nil))))))
theorem ok_times_less {f : Addr} {fd : FuncData} (bt : Bt mg) (ct : Ct K mg) (hm : mg "times_less" = some (.ref f)) (F : Fun K "times_less" "times_less" (top 22) f fd)  : OkD P w K mg base T "times_less" (top 22) 1 ["one"] sp_times_less := by
  refine ⟨f, fd, hm, F, okD (g := g_times_less) F sc_times_less len_times_less (fun cdv A outer s H E W F R hr hE hp hx => ?_) law_times_less⟩
  have nd := sc_times_less.nd
  have hu65 := hu65_of hr
  exact (sds_one (sd_ret (ed_tup (ad_cons (ed_bin o_sub (ed_ix (ed_var 0 (pv 0)).toB ed_int.toB).toB (ed_ix (ed_var 0 (pv 0)).toB ed_int.toB).toB) (ad_cons (ed_ix (ed_var 0 (pv 0)).toB ed_int.toB) (ad_cons (ed_ix (ed_var 0 (pv 0)).toB ed_int.toB) ad_nil))))))
theorem ok_is_whole_number {f : Addr} {fd : FuncData} (bt : Bt mg) (ct : Ct K mg) (hm : mg "is_whole_number" = some (.ref f)) (F : Fun K "is_whole_number" "is_whole_number" (top 24) f fd)  : OkD P w K mg base T "is_whole_number" (top 24) 1 ["one"] sp_is_whole_number := by
  refine ⟨f, fd, hm, F, okD (g := g_is_whole_number) F sc_is_whole_number len_is_whole_number (fun cdv A outer s H E W F R hr hE hp hx => ?_) law_is_whole_number⟩
  have nd := sc_is_whole_number.nd
  have hu65 := hu65_of hr
  exact (sds_one (sd_ret (ed_and (ed_cmp (o_eq hr.units) (ed_bin o_mod (ed_ix (ed_var 0 (pv 0)).toB ed_int.toB).toB (ed_ix (ed_var 0 (pv 0)).toB ed_int.toB).toB).toB ed_int.toB (nomark _)) (ed_one (ed_cmp (o_eq hr.units) (ed_bin o_mod (ed_ix (ed_var 0 (pv 0)).toB ed_int.toB).toB (ed_ix (ed_var 0 (pv 0)).toB ed_int.toB).toB).toB ed_int.toB (nomark _))))))
theorem ok_floor_integer {f : Addr} {fd : FuncData} (bt : Bt mg) (ct : Ct K mg) (hm : mg "floor_integer" = some (.ref f)) (F : Fun K "floor_integer" "floor_integer" (top 25) f fd)  : OkD P w K mg base T "floor_integer" (top 25) 1 ["one"] sp_floor_integer := by
  refine ⟨f, fd, hm, F, okD (g := g_floor_integer) F sc_floor_integer len_floor_integer (fun cdv A outer s H E W F R hr hE hp hx => ?_) law_floor_integer⟩
  have nd := sc_floor_integer.nd
  have hu65 := hu65_of hr
  exact (sds_cons (sd_par3 (i := 1) (j := 2) (l := 3) rfl nd rfl rfl rfl (by decide) (by decide) (by decide) rfl rfl rfl (ad_cons (ed_bin o_add (ed_bin o_mul ed_int.toB (ed_ix (ed_var 0 (pv 0)).toB ed_int.toB).toB).toB (ed_ix (ed_var 0 (pv 0)).toB ed_int.toB).toB) (ad_cons (ed_ix (ed_var 0 (pv 0)).toB ed_int.toB) (ad_cons (ed_bin o_mul ed_int.toB (ed_ix (ed_var 0 (pv 0)).toB ed_int.toB).toB) ad_nil))) (by rfl))
      (sds_cons (sd_set (i := 4) nd rfl (Or.inl rfl) (ed_callFun c_isqrt (by rfl) bt.f_isqrt (abd_cons (ed_bin o_mul (ed_bin o_mul ed_int.toB (ed_var 2 (pv 2)).toB).toB (ed_var 2 (pv 2)).toB).toB abd_nil)))
      (sds_cons (sd_if (td_cmp o_ge (ed_var 2 (pv 2)).toB ed_int.toB (nomark _)) (sds_one (sd_ret (ed_bin o_fdiv (ed_bin o_add (ed_var 1 (pv 1)).toB (ed_var 4 (pv 4)).toB).toB (ed_var 3 (pv 3)).toB))) sds_nil)
      (sds_one (sd_ret (ed_bin o_fdiv (ed_bin o_sub (ed_bin o_sub (ed_var 1 (pv 1)).toB (ed_var 4 (pv 4)).toB).toB ed_int.toB).toB (ed_var 3 (pv 3)).toB))))))
theorem ok_Floor__eq {f C : Addr} {fd : FuncData} (bt : Bt mg) (ct : Ct K mg) (hm : mg "Floor" = some (.ref C)) (hq : PySem.W.findIn K (.ref C) "__eq__" = some (some (.ref f))) (hf : PySem.W.isFn K (.ref f) = true) (F : Fun K "__eq__" "Floor.__eq__" (methS 56 1) f fd)  : EqOf P w K mg base T 1 knownO "Floor" sp_Floor__eq := by
  refine eqof (by decide) hm hq hf F (fun _ _ _ _ _ _ us hl => match us, hl with | [_, _], _ => rfl) (okD (g := g_Floor__eq) F sc_Floor__eq len_Floor__eq (fun cdv A outer s H E W F R hr hE hp hx => ?_) law_Floor__eq) ty_Floor__eq
  have nd := sc_Floor__eq.nd
  have hu65 := hu65_of hr
  exact (sds_one (sd_ret (ed_and (ed_isO (n := "Floor") ct.ob (by decide) (by rfl) bt.b_isinstance (by rfl) (by decide) (ed_var 1 (pv 1)).toB) (ed_and (ed_cmp (o_eq hr.units) (ed_fld ct.fld (ed_var 0 (pv 0)).toB).toB (ed_fld ct.fld (ed_var 1 (pv 1)).toB).toB (nomark _)) (ed_one (ed_cmp (o_eq hr.units) (ed_fld ct.fld (ed_var 0 (pv 0)).toB).toB (ed_fld ct.fld (ed_var 1 (pv 1)).toB).toB (nomark _)))))))
theorem eqs_of (O : EqOf P w K mg base T 1 knownO "Floor" sp_Floor__eq) {n : Str} {sp : DSp} (h : eqsO n = some sp) : EqOf P w K mg base T 1 knownO n sp := by
  unfold eqsO at h
  split at h
  · rename_i e
    subst e
    cases h
    exact O
  · cases h
theorem ok__law_same {f : Addr} {fd : FuncData} (bt : Bt mg) (ct : Ct K mg) (hm : mg "_law_same" = some (.ref f)) (F : Fun K "_law_same" "_law_same" (top 64) f fd)  : OkG P w K mg base T "_law_same" (top 64) 1 ["_law_told", "_law_due"] sp__law_same := by
  refine ⟨f, fd, hm, F, okG (g := g__law_same) F sc__law_same len__law_same (fun cdv A outer s H E W F R hG hr hE hp hx => ?_) law__law_same⟩
  have nd := sc__law_same.nd
  have hu65 := hu65_of hr
  exact (sds_one (sd_ret (ed_cmp (o_eq hr.units) (ed_callB (c_reprB ct.dig hG hu65) (by rfl) bt.b_repr nbRepr (abd_cons (ed_var 0 (pv 0)).toB abd_nil)).toB (ed_callB (c_reprB ct.dig hG hu65) (by rfl) bt.b_repr nbRepr (abd_cons (ed_var 1 (pv 1)).toB abd_nil)).toB (nomark _))))
theorem ok__law_is_golden {f : Addr} {fd : FuncData} (bt : Bt mg) (ct : Ct K mg) (hm : mg "_law_is_golden" = some (.ref f)) (F : Fun K "_law_is_golden" "_law_is_golden" (top 68) f fd)  : OkD P w K mg base T "_law_is_golden" (top 68) 1 ["_law_thing"] sp__law_is_golden := by
  refine ⟨f, fd, hm, F, okD (g := g__law_is_golden) F sc__law_is_golden len__law_is_golden (fun cdv A outer s H E W F R hr hE hp hx => ?_) law__law_is_golden⟩
  have nd := sc__law_is_golden.nd
  have hu65 := hu65_of hr
  exact (sds_cons (sd_if (wd_or (td_not (td_val (ed_callB (c_isiX ct.ob) (by rfl) bt.b_isinstance nbIsi (abd_cons (ed_var 0 (pv 0)).toB (abd_cons (ed_ty (by rfl) bt.b_tuple nbTuple).toB abd_nil))).toB)) (wd_or1 (td_cmp (o_ne hr.units) (ed_callB c_len (by rfl) bt.b_len nbLen (abd_cons (ed_var 0 (pv 0)).toB abd_nil)).toB ed_int.toB (nomark _)))).t (sds_one (sd_ret ed_bl)) sds_nil)
      (sds_one (sd_ret (ed_and (ed_cmp (o_eq hr.units) (fd_lc (own := [("_law_it", 1)]) rfl nd (pid_data (ed_var 0 (pv 0))) (blkOk_by (own := [("_law_it", 1)]) (N := ["_law_thing", "_law_it"]) (sc := defScope (top 68)) (by decide +kernel)) (ct_name (by decide)) (fun _ _ _ _ _ => pg_name (i := 1) nd rfl (Or.inl rfl)) (fun _ _ _ _ _ => (tds_one (wd_or (td_not (td_val (ed_callB (c_isiX ct.ob) (by rfl) bt.b_isinstance nbIsi (abd_cons (ed_var 1 (pv 1)).toB (abd_cons (ed_ty (by rfl) bt.b_int nbInt).toB abd_nil))).toB)) (wd_or1 (td_val (ed_callB (c_isiX ct.ob) (by rfl) bt.b_isinstance nbIsi (abd_cons (ed_var 1 (pv 1)).toB (abd_cons (ed_ty (by rfl) bt.b_bool nbBool).toB abd_nil))).toB))).t)) (fun _ _ _ _ _ => ed_int)).toE.toB (fd_lst ad_nil).toE.toB (nomark _)) (ed_one (ed_cmp o_gt (ed_ix (ed_var 0 (pv 0)).toB ed_int.toB).toB ed_int.toB (nomark _)))))))
theorem ok__law_refused {f : Addr} {fd : FuncData} (bt : Bt mg) (ct : Ct K mg) (hm : mg "_law_refused" = some (.ref f)) (F : Fun K "_law_refused" "_law_refused" (top 70) f fd)  : ∀ k, OkL P w K mg base T "_law_refused" (top 70) k ["_law_call", "e", "_law_is_other"] "_law_call" sp__law_refused := by
  intro k
  obtain ⟨D_BadNumber, g_BadNumber⟩ := ct.g_BadNumber
  obtain ⟨D_DividedByZero, g_DividedByZero⟩ := ct.g_DividedByZero
  obtain ⟨D_FloorError, g_FloorError⟩ := ct.g_FloorError
  refine okL (g := g__law_refused) hm F sc__law_refused (fun cdv A outer s H W F f0 act_ hr act => ?_) law__law_refused
  have nd := sc__law_refused.nd
  have hu65 := hu65_of hr
  exact (sds_cons (sd_tryL (X := (cxL P w K mg base ["_law_call", "e", "_law_is_other"] "_law_refused" (top 70) f cdv A outer s H).nox) (M := clsM) (E := fun _ _ _ => False) rfl rfl nd LamX.takes0 finE_none ct.tab (fun Wx pn xe R tk hE hp => (sds_one (sd_drop (act Wx pn xe R _ _ tk hE).toB)))
      (.named rfl rfl g_BadNumber (i := 1) rfl rfl (fun a oe cls d pn F0 H0 er zc fv at_ => (sds_cons (sd_set (i := 2) nd rfl (Or.inl rfl) (ed_or (ed_isE (M := clsI) at_ zc fv ct.isi (by rfl) bt.b_isinstance (by rfl) (by decide) (pv 1)) (ed_or (ed_isE (M := clsI) at_ zc fv ct.isi (by rfl) bt.b_isinstance (by rfl) (by decide) (pv 1)) (ed_or (ed_isE (M := clsI) at_ zc fv ct.isi (by rfl) bt.b_isinstance (by rfl) (by decide) (pv 1)) (ed_one (ed_isE (M := clsI) at_ zc fv ct.isi (by rfl) bt.b_isinstance (by rfl) (by decide) (pv 1)))))))
      (sds_one (sd_ret (ed_if (wd_or (td_val (ed_var 2 (pv 2)).toB) (wd_or1 (td_not (td_val (ed_isE (M := clsI) at_ zc fv ct.isi (by rfl) bt.b_isinstance (by rfl) (by decide) (pv 1)).toB)))).t (ed_tup (ad_cons ed_str (ad_cons ed_non ad_nil))) (ed_tup (ad_cons ed_str (ad_cons (ed_erF (fld := "thing") at_ zc fv ct.get_thing (pv 1)) ad_nil)))))))) (.named rfl rfl g_DividedByZero (i := 1) rfl rfl (fun a oe cls d pn F0 H0 er zc fv at_ => (sds_one (sd_ret (ed_tup (ad_cons ed_str (ad_cons (ed_isE (M := clsI) at_ zc fv ct.isi (by rfl) bt.b_isinstance (by rfl) (by decide) (pv 1)) ad_nil)))))) (.plain rfl rfl g_FloorError (fun a oe cls d pn F0 H0 er zc fv at_ => (sds_one (sd_ret (ed_tup (ad_cons ed_str (ad_cons ed_non ad_nil)))))) .nil))))
      (sds_one (sd_ret ed_non)))
theorem ok_is_number {f : Addr} {fd : FuncData} (bt : Bt mg) (ct : Ct K mg) (hm : mg "is_number" = some (.ref f)) (F : Fun K "is_number" "is_number" (top 12) f fd) (O_is_integer : OkD P w K mg base T "is_integer" (top 11) 1 ["thing"] sp_is_integer) : OkD P w K mg base T "is_number" (top 12) 2 ["thing"] sp_is_number := by
  refine ⟨f, fd, hm, F, okD (g := g_is_number) F sc_is_number len_is_number (fun cdv A outer s H E W F R hr hE hp hx => ?_) law_is_number⟩
  have nd := sc_is_number.nd
  have hu65 := hu65_of hr
  exact (sds_cons (sd_if (wd_or (td_not (td_val (ed_callB (c_isiX ct.ob) (by rfl) bt.b_isinstance nbIsi (abd_cons (ed_var 0 (pv 0)).toB (abd_cons (ed_ty (by rfl) bt.b_tuple nbTuple).toB abd_nil))).toB)) (wd_or1 (td_cmp (o_ne hr.units) (ed_callB c_len (by rfl) bt.b_len nbLen (abd_cons (ed_var 0 (pv 0)).toB abd_nil)).toB ed_int.toB (nomark _)))).t (sds_one (sd_ret ed_bl)) sds_nil)
      (sds_one (sd_ret (ed_and (ed_o (B := ⟨⟨W, T⟩, F, H⟩) (k := 1) O_is_integer bp_is_integer (hr.mono (by decide)) hx hE (ad_cons (ed_ix (ed_var 0 (pv 0)).toB ed_int.toB) ad_nil)) (ed_and (ed_o (B := ⟨⟨W, T⟩, F, H⟩) (k := 1) O_is_integer bp_is_integer (hr.mono (by decide)) hx hE (ad_cons (ed_ix (ed_var 0 (pv 0)).toB ed_int.toB) ad_nil)) (ed_and (ed_o (B := ⟨⟨W, T⟩, F, H⟩) (k := 1) O_is_integer bp_is_integer (hr.mono (by decide)) hx hE (ad_cons (ed_ix (ed_var 0 (pv 0)).toB ed_int.toB) ad_nil)) (ed_one (ed_cmp o_ge (ed_ix (ed_var 0 (pv 0)).toB ed_int.toB).toB ed_int.toB (nomark _)))))))))
theorem ok_sign_of {f : Addr} {fd : FuncData} (bt : Bt mg) (ct : Ct K mg) (hm : mg "sign_of" = some (.ref f)) (F : Fun K "sign_of" "sign_of" (top 15) f fd) (O_pair_sign : OkD P w K mg base T "pair_sign" (top 14) 1 ["a", "b"] sp_pair_sign) : OkD P w K mg base T "sign_of" (top 15) 2 ["one"] sp_sign_of := by
  refine ⟨f, fd, hm, F, okD (g := g_sign_of) F sc_sign_of len_sign_of (fun cdv A outer s H E W F R hr hE hp hx => ?_) law_sign_of⟩
  have nd := sc_sign_of.nd
  have hu65 := hu65_of hr
  exact (sds_one (sd_ret (ed_o (B := ⟨⟨W, T⟩, F, H⟩) (k := 1) O_pair_sign bp_pair_sign (hr.mono (by decide)) hx hE (ad_cons (ed_ix (ed_var 0 (pv 0)).toB ed_int.toB) (ad_cons (ed_ix (ed_var 0 (pv 0)).toB ed_int.toB) ad_nil)))))
theorem ok_compared {f : Addr} {fd : FuncData} (bt : Bt mg) (ct : Ct K mg) (hm : mg "compared" = some (.ref f)) (F : Fun K "compared" "compared" (top 16) f fd) (O_pair_sign : OkD P w K mg base T "pair_sign" (top 14) 1 ["a", "b"] sp_pair_sign) : OkD P w K mg base T "compared" (top 16) 2 ["one", "other"] sp_compared := by
  refine ⟨f, fd, hm, F, okD (g := g_compared) F sc_compared len_compared (fun cdv A outer s H E W F R hr hE hp hx => ?_) law_compared⟩
  have nd := sc_compared.nd
  have hu65 := hu65_of hr
  exact (sds_one (sd_ret (ed_o (B := ⟨⟨W, T⟩, F, H⟩) (k := 1) O_pair_sign bp_pair_sign (hr.mono (by decide)) hx hE (ad_cons (ed_bin o_sub (ed_bin o_mul (ed_ix (ed_var 0 (pv 0)).toB ed_int.toB).toB (ed_ix (ed_var 1 (pv 1)).toB ed_int.toB).toB).toB (ed_bin o_mul (ed_ix (ed_var 1 (pv 1)).toB ed_int.toB).toB (ed_ix (ed_var 0 (pv 0)).toB ed_int.toB).toB).toB) (ad_cons (ed_bin o_sub (ed_bin o_mul (ed_ix (ed_var 0 (pv 0)).toB ed_int.toB).toB (ed_ix (ed_var 1 (pv 1)).toB ed_int.toB).toB).toB (ed_bin o_mul (ed_ix (ed_var 1 (pv 1)).toB ed_int.toB).toB (ed_ix (ed_var 0 (pv 0)).toB ed_int.toB).toB).toB) ad_nil)))))
theorem ok_added {f : Addr} {fd : FuncData} (bt : Bt mg) (ct : Ct K mg) (hm : mg "added" = some (.ref f)) (F : Fun K "added" "added" (top 18) f fd) (O_normal : OkD P w K mg base T "normal" (top 13) 1 ["a", "b", "d"] sp_normal) : OkD P w K mg base T "added" (top 18) 2 ["one", "other"] sp_added := by
  refine ⟨f, fd, hm, F, okD (g := g_added) F sc_added len_added (fun cdv A outer s H E W F R hr hE hp hx => ?_) law_added⟩
  have nd := sc_added.nd
  have hu65 := hu65_of hr
  exact (sds_cons (sd_set (i := 2) nd rfl (Or.inl rfl) (ed_bin o_mul (ed_ix (ed_var 0 (pv 0)).toB ed_int.toB).toB (ed_ix (ed_var 1 (pv 1)).toB ed_int.toB).toB))
      (sds_one (sd_ret (ed_o (B := ⟨⟨W, T⟩, F, H⟩) (k := 1) O_normal bp_normal (hr.mono (by decide)) hx hE (ad_cons (ed_bin o_add (ed_bin o_mul (ed_ix (ed_var 0 (pv 0)).toB ed_int.toB).toB (ed_ix (ed_var 1 (pv 1)).toB ed_int.toB).toB).toB (ed_bin o_mul (ed_ix (ed_var 1 (pv 1)).toB ed_int.toB).toB (ed_ix (ed_var 0 (pv 0)).toB ed_int.toB).toB).toB) (ad_cons (ed_bin o_add (ed_bin o_mul (ed_ix (ed_var 0 (pv 0)).toB ed_int.toB).toB (ed_ix (ed_var 1 (pv 1)).toB ed_int.toB).toB).toB (ed_bin o_mul (ed_ix (ed_var 1 (pv 1)).toB ed_int.toB).toB (ed_ix (ed_var 0 (pv 0)).toB ed_int.toB).toB).toB) (ad_cons (ed_var 2 (pv 2)) ad_nil)))))))
theorem ok_multiplied {f : Addr} {fd : FuncData} (bt : Bt mg) (ct : Ct K mg) (hm : mg "multiplied" = some (.ref f)) (F : Fun K "multiplied" "multiplied" (top 20) f fd) (O_normal : OkD P w K mg base T "normal" (top 13) 1 ["a", "b", "d"] sp_normal) : OkD P w K mg base T "multiplied" (top 20) 2 ["one", "other"] sp_multiplied := by
  refine ⟨f, fd, hm, F, okD (g := g_multiplied) F sc_multiplied len_multiplied (fun cdv A outer s H E W F R hr hE hp hx => ?_) law_multiplied⟩
  have nd := sc_multiplied.nd
  have hu65 := hu65_of hr
  exact (sds_cons (sd_setT (is := [2, 3, 4, 5]) rfl (na_cons (pg_name (i := 2) nd rfl (Or.inl rfl)) (na_cons (pg_name (i := 3) nd rfl (Or.inl rfl)) (na_cons (pg_name (i := 4) nd rfl (Or.inl rfl)) (na_cons (pg_name (i := 5) nd rfl (Or.inl rfl)) na_nil)))) (ed_tup (ad_cons (ed_ix (ed_var 0 (pv 0)).toB ed_int.toB) (ad_cons (ed_ix (ed_var 0 (pv 0)).toB ed_int.toB) (ad_cons (ed_ix (ed_var 1 (pv 1)).toB ed_int.toB) (ad_cons (ed_ix (ed_var 1 (pv 1)).toB ed_int.toB) ad_nil))))))
      (sds_one (sd_ret (ed_o (B := ⟨⟨W, T⟩, F, H⟩) (k := 1) O_normal bp_normal (hr.mono (by decide)) hx hE (ad_cons (ed_bin o_add (ed_bin o_mul (ed_var 2 (pv 2)).toB (ed_var 4 (pv 4)).toB).toB (ed_bin o_mul (ed_var 3 (pv 3)).toB (ed_var 5 (pv 5)).toB).toB) (ad_cons (ed_bin o_add (ed_bin o_add (ed_bin o_mul (ed_var 2 (pv 2)).toB (ed_var 5 (pv 5)).toB).toB (ed_bin o_mul (ed_var 3 (pv 3)).toB (ed_var 4 (pv 4)).toB).toB).toB (ed_bin o_mul (ed_var 3 (pv 3)).toB (ed_var 5 (pv 5)).toB).toB) (ad_cons (ed_bin o_mul (ed_ix (ed_var 0 (pv 0)).toB ed_int.toB).toB (ed_ix (ed_var 1 (pv 1)).toB ed_int.toB).toB) ad_nil)))))))
theorem ok_ceiling_integer {f : Addr} {fd : FuncData} (bt : Bt mg) (ct : Ct K mg) (hm : mg "ceiling_integer" = some (.ref f)) (F : Fun K "ceiling_integer" "ceiling_integer" (top 26) f fd) (O_floor_integer : OkD P w K mg base T "floor_integer" (top 25) 1 ["one"] sp_floor_integer) (O_negative : OkD P w K mg base T "negative" (top 17) 1 ["one"] sp_negative) : OkD P w K mg base T "ceiling_integer" (top 26) 2 ["one"] sp_ceiling_integer := by
  refine ⟨f, fd, hm, F, okD (g := g_ceiling_integer) F sc_ceiling_integer len_ceiling_integer (fun cdv A outer s H E W F R hr hE hp hx => ?_) law_ceiling_integer⟩
  have nd := sc_ceiling_integer.nd
  have hu65 := hu65_of hr
  exact (sds_one (sd_ret (ed_un o_neg (ed_o (B := ⟨⟨W, T⟩, F, H⟩) (k := 1) O_floor_integer bp_floor_integer (hr.mono (by decide)) hx hE (ad_cons (ed_o (B := ⟨⟨W, T⟩, F, H⟩) (k := 1) O_negative bp_negative (hr.mono (by decide)) hx hE (ad_cons (ed_var 0 (pv 0)) ad_nil)) ad_nil)).toB)))
theorem ok_power {f : Addr} {fd : FuncData} (bt : Bt mg) (ct : Ct K mg) (hm : mg "power" = some (.ref f)) (F : Fun K "power" "power" (top 44) f fd) (O_is_integer : OkD P w K mg base T "is_integer" (top 11) 1 ["thing"] sp_is_integer) (O_times_g : OkD P w K mg base T "times_g" (top 21) 1 ["one"] sp_times_g) (O_times_less : OkD P w K mg base T "times_less" (top 22) 1 ["one"] sp_times_less) : OkD P w K mg base T "power" (top 44) 2 ["n"] sp_power := by
  obtain ⟨C_BadPower, fI_BadPower, T_BadPower, N_BadPower⟩ := ct.er_BadPower
  refine ⟨f, fd, hm, F, okD (g := g_power) F sc_power len_power (fun cdv A outer s H E W F R hr hE hp hx => ?_) law_power⟩
  have nd := sc_power.nd
  have hu65 := hu65_of hr
  exact (sds_cons (sd_if (wd_or (td_not (td_val (ed_o (B := ⟨⟨W, T⟩, F, H⟩) (k := 1) O_is_integer bp_is_integer (hr.mono (by decide)) hx hE (ad_cons (ed_var 0 (pv 0)) ad_nil)).toB)) (wd_or1 (td_not (td_chain o_le o_le (ed_un o_neg (ed_glob ct.gl_POWER_MOST).toB).toB (ed_var 0 (pv 0)).toB (ed_glob ct.gl_POWER_MOST).toB)))).t (sds_one (sd_raise rfl T_BadPower N_BadPower hr (takes_of rfl rfl rfl rfl) hE (ed_var 0 (pv 0)))) sds_nil)
      (sds_cons (sd_set (i := 1) nd rfl (Or.inl rfl) (ed_glob ct.gl_ONE))
      (sds_cons (sd_for hp rfl (pid_rng1 (by rfl) bt.b_range (ad_cons (ed_callB c_abs (by rfl) bt.b_abs nbAbs (abd_cons (ed_var 0 (pv 0)).toB abd_nil)) ad_nil)) (gd_name (pg_name (i := 2) nd rfl (Or.inl rfl))) (sds_one (sd_set (i := 1) nd rfl (Or.inl rfl) (ed_if (td_cmp o_gt (ed_var 0 (pv 0)).toB ed_int.toB (nomark _)) (ed_o (B := ⟨⟨W, T⟩, F, H⟩) (k := 1) O_times_g bp_times_g (hr.mono (by decide)) hx hE (ad_cons (ed_var 1 (pv 1)) ad_nil)) (ed_o (B := ⟨⟨W, T⟩, F, H⟩) (k := 1) O_times_less bp_times_less (hr.mono (by decide)) hx hE (ad_cons (ed_var 1 (pv 1)) ad_nil))))))
      (sds_one (sd_ret (ed_var 1 (pv 1)))))))
theorem ok_whole_directions {f : Addr} {fd : FuncData} (bt : Bt mg) (ct : Ct K mg) (hm : mg "whole_directions" = some (.ref f)) (F : Fun K "whole_directions" "whole_directions" (top 53) f fd) (O_is_whole_number : OkD P w K mg base T "is_whole_number" (top 24) 1 ["one"] sp_is_whole_number) : OkD P w K mg base T "whole_directions" (top 53) 2 ["keys"] sp_whole_directions := by
  refine ⟨f, fd, hm, F, okD (g := g_whole_directions) F sc_whole_directions len_whole_directions (fun cdv A outer s H E W F R hr hE hp hx => ?_) law_whole_directions⟩
  have nd := sc_whole_directions.nd
  have hu65 := hu65_of hr
  exact (sds_one (sd_ret (ed_callTy c_tuple (by rfl) bt.b_tuple nbTuple (abd_cons (fd_lc (own := [("r", 1)]) rfl nd (pid_rng1 (by rfl) bt.b_range (ad_cons ed_int ad_nil)) (blkOk_by (own := [("r", 1)]) (N := ["keys", "r"]) (sc := defScope (top 53)) (by decide +kernel)) (ct_name (by decide)) (fun _ _ _ _ _ => pg_name (i := 1) nd rfl (Or.inl rfl)) (fun _ _ _ _ _ => (tds_one (td_val (ed_o (B := ⟨⟨W, T⟩, F, H⟩) (k := 1) O_is_whole_number bp_is_whole_number (hr.mono (by decide)) passL FinE.none (ad_cons (ed_ix (ed_var 0 (pv 0)).toB (ed_var 1 (pv 1)).toB) ad_nil)).toB))) (fun _ _ _ _ _ => (ed_var 1 (pv 1)))).toE.toB abd_nil))))
theorem ok__law_pick {f : Addr} {fd : FuncData} (bt : Bt mg) (ct : Ct K mg) (hm : mg "_law_pick" = some (.ref f)) (F : Fun K "_law_pick" "_law_pick" (top 62) f fd) (O__law_draw : OkD P w K mg base T "_law_draw" (top 61) 1 ["_law_deck_here", "_law_many"] spDraw) : OkD P w K mg base T "_law_pick" (top 62) 2 ["_law_deck_here", "_law_some"] sp__law_pick := by
  refine ⟨f, fd, hm, F, okD (g := g__law_pick) F sc__law_pick len__law_pick (fun cdv A outer s H E W F R hr hE hp hx => ?_) law__law_pick⟩
  have nd := sc__law_pick.nd
  have hu65 := hu65_of hr
  exact (sds_one (sd_ret (ed_ix (ed_var 1 (pv 1)).toB (ed_o (B := ⟨⟨W, T⟩, F, H⟩) (k := 1) O__law_draw bp__law_draw (hr.mono (by decide)) hx hE (ad_cons (ed_var 0 (pv 0)) (ad_cons (ed_callB c_len (by rfl) bt.b_len nbLen (abd_cons (ed_var 1 (pv 1)).toB abd_nil)) ad_nil))).toB)))
theorem ok__law_integer {f : Addr} {fd : FuncData} (bt : Bt mg) (ct : Ct K mg) (hm : mg "_law_integer" = some (.ref f)) (F : Fun K "_law_integer" "_law_integer" (top 63) f fd) (O__law_draw : OkD P w K mg base T "_law_draw" (top 61) 1 ["_law_deck_here", "_law_many"] spDraw) : OkD P w K mg base T "_law_integer" (top 63) 2 ["_law_deck_here", "_law_pieces"] sp__law_integer := by
  refine ⟨f, fd, hm, F, okD (g := g__law_integer) F sc__law_integer len__law_integer (fun cdv A outer s H E W F R hr hE hp hx => ?_) law__law_integer⟩
  have nd := sc__law_integer.nd
  have hu65 := hu65_of hr
  exact (sds_cons (sd_par3 (i := 2) (j := 3) (l := 4) rfl nd rfl rfl rfl (by decide) (by decide) (by decide) rfl rfl rfl (ad_cons (ed_o (B := ⟨⟨W, T⟩, F, H⟩) (k := 1) O__law_draw bp__law_draw (hr.mono (by decide)) hx hE (ad_cons (ed_var 0 (pv 0)) (ad_cons ed_int ad_nil))) (ad_cons (ed_bin o_sub ed_int.toB (ed_bin o_mul ed_int.toB (ed_o (B := ⟨⟨W, T⟩, F, H⟩) (k := 1) O__law_draw bp__law_draw (hr.mono (by decide)) hx hE (ad_cons (ed_var 0 (pv 0)) (ad_cons ed_int ad_nil))).toB).toB) (ad_cons ed_int ad_nil))) (by rfl))
      (sds_cons (sd_if (td_cmp o_lt (ed_var 2 (pv 2)).toB ed_int.toB (nomark _)) (sds_one (sd_ret (ed_bin o_mul (ed_var 3 (pv 3)).toB (ed_o (B := ⟨⟨W, T⟩, F, H⟩) (k := 1) O__law_draw bp__law_draw (hr.mono (by decide)) hx hE (ad_cons (ed_var 0 (pv 0)) (ad_cons (ed_ix (ed_tup (ad_cons ed_int (ad_cons ed_int (ad_cons ed_int (ad_cons ed_int (ad_cons ed_int (ad_cons ed_int ad_nil))))))).toB (ed_var 2 (pv 2)).toB) ad_nil))).toB))) sds_nil)
      (sds_cons (sd_if (td_cmp (o_eq hr.units) (ed_var 2 (pv 2)).toB ed_int.toB (nomark _)) (sds_one (sd_ret (ed_bin o_mul (ed_var 3 (pv 3)).toB (ed_bin o_sub (ed_callTy (c_intB ct.dig) (by rfl) bt.b_int nbInt (abd_cons (ed_bin o_repS ed_str.toB (ed_bin o_mul ed_int.toB (ed_var 1 (pv 1)).toB).toB).toB abd_nil)).toB (ed_o (B := ⟨⟨W, T⟩, F, H⟩) (k := 1) O__law_draw bp__law_draw (hr.mono (by decide)) hx hE (ad_cons (ed_var 0 (pv 0)) (ad_cons ed_int ad_nil))).toB).toB))) sds_nil)
      (sds_cons (sd_for hp rfl (pid_rng1 (by rfl) bt.b_range (ad_cons (ed_bin o_add ed_int.toB (ed_o (B := ⟨⟨W, T⟩, F, H⟩) (k := 1) O__law_draw bp__law_draw (hr.mono (by decide)) hx hE (ad_cons (ed_var 0 (pv 0)) (ad_cons (ed_var 1 (pv 1)) ad_nil))).toB) ad_nil)) (gd_name (pg_name (i := 5) nd rfl (Or.inl rfl))) (sds_one (sd_set (i := 4) nd rfl (Or.inl rfl) (ed_bin o_add (ed_bin o_mul (ed_var 4 (pv 4)).toB (ed_bin o_pow ed_int.toB ed_int.toB).toB).toB (ed_o (B := ⟨⟨W, T⟩, F, H⟩) (k := 1) O__law_draw bp__law_draw (hr.mono (by decide)) hx hE (ad_cons (ed_var 0 (pv 0)) (ad_cons (ed_bin o_pow ed_int.toB ed_int.toB) ad_nil))).toB))))
      (sds_one (sd_ret (ed_bin o_mul (ed_var 3 (pv 3)).toB (ed_var 4 (pv 4)).toB)))))))
theorem ok_taken {f : Addr} {fd : FuncData} (bt : Bt mg) (ct : Ct K mg) (hm : mg "taken" = some (.ref f)) (F : Fun K "taken" "taken" (top 19) f fd) (O_added : OkD P w K mg base T "added" (top 18) 2 ["one", "other"] sp_added) (O_negative : OkD P w K mg base T "negative" (top 17) 1 ["one"] sp_negative) : OkD P w K mg base T "taken" (top 19) 3 ["one", "other"] sp_taken := by
  refine ⟨f, fd, hm, F, okD (g := g_taken) F sc_taken len_taken (fun cdv A outer s H E W F R hr hE hp hx => ?_) law_taken⟩
  have nd := sc_taken.nd
  have hu65 := hu65_of hr
  exact (sds_one (sd_ret (ed_o (B := ⟨⟨W, T⟩, F, H⟩) (k := 2) O_added bp_added (hr.mono (by decide)) hx hE (ad_cons (ed_var 0 (pv 0)) (ad_cons (ed_o (B := ⟨⟨W, T⟩, F, H⟩) (k := 1) O_negative bp_negative (hr.mono (by decide)) hx hE (ad_cons (ed_var 1 (pv 1)) ad_nil)) ad_nil)))))
theorem ok_divided {f : Addr} {fd : FuncData} (bt : Bt mg) (ct : Ct K mg) (hm : mg "divided" = some (.ref f)) (F : Fun K "divided" "divided" (top 23) f fd) (O_multiplied : OkD P w K mg base T "multiplied" (top 20) 2 ["one", "other"] sp_multiplied) (O_normal : OkD P w K mg base T "normal" (top 13) 1 ["a", "b", "d"] sp_normal) : OkD P w K mg base T "divided" (top 23) 3 ["one", "other"] sp_divided := by
  refine ⟨f, fd, hm, F, okD (g := g_divided) F sc_divided len_divided (fun cdv A outer s H E W F R hr hE hp hx => ?_) law_divided⟩
  have nd := sc_divided.nd
  have hu65 := hu65_of hr
  exact (sds_cons (sd_par2 (i := 2) (j := 3) rfl nd rfl rfl (by decide) rfl rfl (ad_cons (ed_ix (ed_var 1 (pv 1)).toB ed_int.toB) (ad_cons (ed_ix (ed_var 1 (pv 1)).toB ed_int.toB) ad_nil)) (by rfl))
      (sds_cons (sd_set (i := 4) nd rfl (Or.inl rfl) (ed_o (B := ⟨⟨W, T⟩, F, H⟩) (k := 2) O_multiplied bp_multiplied (hr.mono (by decide)) hx hE (ad_cons (ed_tup (ad_cons (ed_ix (ed_var 0 (pv 0)).toB ed_int.toB) (ad_cons (ed_ix (ed_var 0 (pv 0)).toB ed_int.toB) (ad_cons ed_int ad_nil)))) (ad_cons (ed_tup (ad_cons (ed_bin o_add (ed_var 2 (pv 2)).toB (ed_var 3 (pv 3)).toB) (ad_cons (ed_un o_neg (ed_var 3 (pv 3)).toB) (ad_cons ed_int ad_nil)))) ad_nil))))
      (sds_cons (sd_set (i := 5) nd rfl (Or.inl rfl) (ed_bin o_sub (ed_bin o_add (ed_bin o_mul (ed_var 2 (pv 2)).toB (ed_var 2 (pv 2)).toB).toB (ed_bin o_mul (ed_var 2 (pv 2)).toB (ed_var 3 (pv 3)).toB).toB).toB (ed_bin o_mul (ed_var 3 (pv 3)).toB (ed_var 3 (pv 3)).toB).toB))
      (sds_one (sd_ret (ed_o (B := ⟨⟨W, T⟩, F, H⟩) (k := 1) O_normal bp_normal (hr.mono (by decide)) hx hE (ad_cons (ed_bin o_mul (ed_ix (ed_var 4 (pv 4)).toB ed_int.toB).toB (ed_ix (ed_var 1 (pv 1)).toB ed_int.toB).toB) (ad_cons (ed_bin o_mul (ed_ix (ed_var 4 (pv 4)).toB ed_int.toB).toB (ed_ix (ed_var 1 (pv 1)).toB ed_int.toB).toB) (ad_cons (ed_bin o_mul (ed_var 5 (pv 5)).toB (ed_ix (ed_var 0 (pv 0)).toB ed_int.toB).toB) ad_nil)))))))))
theorem ok_need_numbers {f : Addr} {fd : FuncData} (bt : Bt mg) (ct : Ct K mg) (hm : mg "need_numbers" = some (.ref f)) (F : Fun K "need_numbers" "need_numbers" (top 30) f fd) (O_is_number : OkD P w K mg base T "is_number" (top 12) 2 ["thing"] sp_is_number) : OkD P w K mg base T "need_numbers" (top 30) 3 ["things"] sp_need_numbers := by
  obtain ⟨C_BadNumber, fI_BadNumber, T_BadNumber, N_BadNumber⟩ := ct.er_BadNumber
  refine ⟨f, fd, hm, F, okD (g := g_need_numbers) F sc_need_numbers len_need_numbers (fun cdv A outer s H E W F R hr hE hp hx => ?_) law_need_numbers⟩
  have nd := sc_need_numbers.nd
  have hu65 := hu65_of hr
  exact (sds_one (sd_for hp rfl (pid_data (ed_var 0 (pv 0))) (gd_name (pg_name (i := 1) nd rfl (Or.inl rfl))) (sds_one (sd_if (td_not (td_val (ed_o (B := ⟨⟨W, T⟩, F, H⟩) (k := 2) O_is_number bp_is_number (hr.mono (by decide)) hx hE (ad_cons (ed_var 1 (pv 1)) ad_nil)).toB)) (sds_one (sd_raise rfl T_BadNumber N_BadNumber hr (takes_of rfl rfl rfl rfl) hE (ed_var 1 (pv 1)))) sds_nil))))
theorem ok_is_golden {f : Addr} {fd : FuncData} (bt : Bt mg) (ct : Ct K mg) (hm : mg "is_golden" = some (.ref f)) (F : Fun K "is_golden" "is_golden" (top 31) f fd) (O_is_number : OkD P w K mg base T "is_number" (top 12) 2 ["thing"] sp_is_number) : OkD P w K mg base T "is_golden" (top 31) 3 ["thing"] sp_is_golden := by
  refine ⟨f, fd, hm, F, okD (g := g_is_golden) F sc_is_golden len_is_golden (fun cdv A outer s H E W F R hr hE hp hx => ?_) law_is_golden⟩
  have nd := sc_is_golden.nd
  have hu65 := hu65_of hr
  exact (sds_one (sd_ret (ed_o (B := ⟨⟨W, T⟩, F, H⟩) (k := 2) O_is_number bp_is_number (hr.mono (by decide)) hx hE (ad_cons (ed_var 0 (pv 0)) ad_nil))))
theorem ok_sides_of {f : Addr} {fd : FuncData} (bt : Bt mg) (ct : Ct K mg) (hm : mg "sides_of" = some (.ref f)) (F : Fun K "sides_of" "sides_of" (top 54) f fd) (O_whole_directions : OkD P w K mg base T "whole_directions" (top 53) 2 ["keys"] sp_whole_directions) : OkD P w K mg base T "sides_of" (top 54) 3 ["keys"] sp_sides_of := by
  refine ⟨f, fd, hm, F, okD (g := g_sides_of) F sc_sides_of len_sides_of (fun cdv A outer s H E W F R hr hE hp hx => ?_) law_sides_of⟩
  have nd := sc_sides_of.nd
  have hu65 := hu65_of hr
  exact (sds_cons (sd_set (i := 1) nd rfl (Or.inl rfl) (ed_o (B := ⟨⟨W, T⟩, F, H⟩) (k := 2) O_whole_directions bp_whole_directions (hr.mono (by decide)) hx hE (ad_cons (ed_var 0 (pv 0)) ad_nil)))
      (sds_cons (sd_if (td_cmp (o_eq hr.units) (ed_callB c_len (by rfl) bt.b_len nbLen (abd_cons (ed_var 1 (pv 1)).toB abd_nil)).toB ed_int.toB (nomark _)) (sds_one (sd_ret (ed_tup (ad_cons (ed_glob ct.gl_NO_SIDE) ad_nil)))) sds_nil)
      (sds_cons (sd_if (td_cmp (o_eq hr.units) (ed_callB c_len (by rfl) bt.b_len nbLen (abd_cons (ed_var 1 (pv 1)).toB abd_nil)).toB ed_int.toB (nomark _)) (sds_cons (sd_set (i := 4) nd rfl (Or.inr rfl) (ed_ix (ed_var 1 (pv 1)).toB ed_int.toB))
      (sds_cons (sd_set (i := 5) nd rfl (Or.inl rfl) (ed_callTy c_tuple (by rfl) bt.b_tuple nbTuple (abd_cons (fd_lc (own := [("j", 6)]) rfl nd (pid_rng1 (by rfl) bt.b_range (ad_cons ed_int ad_nil)) (blkOk_by (own := [("j", 6)]) (N := ["keys", "directions", "found", "turns", "r", "one", "j", "part"]) (sc := defScope (top 54)) (by decide +kernel)) (ct_name (by decide)) (fun _ _ _ _ _ => pg_name (i := 6) nd rfl (Or.inl rfl)) (fun _ _ _ _ _ => tds_nil) (fun _ _ _ _ _ => (ed_if (td_cmp (o_eq hr.units) (ed_var 6 (pv 6)).toB (ed_var 4 (pv 4)).toB (nomark _)) ed_int ed_int))).toE.toB abd_nil)))
      (sds_one (sd_ret (ed_tup (ad_cons (ed_callTy c_tuple (by rfl) bt.b_tuple nbTuple (abd_cons (fd_lc (own := [("part", 7)]) rfl nd (pid_data (ed_var 5 (pv 5))) (blkOk_by (own := [("part", 7)]) (N := ["keys", "directions", "found", "turns", "r", "one", "j", "part"]) (sc := defScope (top 54)) (by decide +kernel)) (ct_name (by decide)) (fun _ _ _ _ _ => pg_name (i := 7) nd rfl (Or.inl rfl)) (fun _ _ _ _ _ => tds_nil) (fun _ _ _ _ _ => (ed_un o_neg (ed_var 7 (pv 7)).toB))).toE.toB abd_nil)) (ad_cons (ed_var 5 (pv 5)) ad_nil))))))) sds_nil)
      (sds_cons (sd_setL (i := 2) nd rfl (Or.inl rfl) (fd_lst ad_nil))
      (sds_cons (sd_for hp rfl (pid_rng1 (by rfl) bt.b_range (ad_cons ed_int ad_nil)) (gd_name (pg_name (i := 3) nd rfl (Or.inr rfl))) (sds_cons (sd_set (i := 5) nd rfl (Or.inl rfl) (ed_callTy c_tuple (by rfl) bt.b_tuple nbTuple (abd_cons (fd_lc (own := [("j", 6)]) rfl nd (pid_rng1 (by rfl) bt.b_range (ad_cons ed_int ad_nil)) (blkOk_by (own := [("j", 6)]) (N := ["keys", "directions", "found", "turns", "r", "one", "j", "part"]) (sc := defScope (top 54)) (by decide +kernel)) (ct_name (by decide)) (fun _ _ _ _ _ => pg_name (i := 6) nd rfl (Or.inl rfl)) (fun _ _ _ _ _ => tds_nil) (fun _ _ _ _ _ => (ed_ix (ed_glob ct.gl_FIRST_SIDE).toB (ed_bin o_mod (ed_bin o_sub (ed_var 6 (pv 6)).toB (ed_var 3 (pv 3)).toB).toB ed_int.toB).toB))).toE.toB abd_nil)))
      (sds_cons (sd_appE (pv 2) (ed_var 5 (pv 5)))
      (sds_one (sd_appE (pv 2) (ed_callTy c_tuple (by rfl) bt.b_tuple nbTuple (abd_cons (fd_lc (own := [("part", 7)]) rfl nd (pid_data (ed_var 5 (pv 5))) (blkOk_by (own := [("part", 7)]) (N := ["keys", "directions", "found", "turns", "r", "one", "j", "part"]) (sc := defScope (top 54)) (by decide +kernel)) (ct_name (by decide)) (fun _ _ _ _ _ => pg_name (i := 7) nd rfl (Or.inl rfl)) (fun _ _ _ _ _ => tds_nil) (fun _ _ _ _ _ => (ed_un o_neg (ed_var 7 (pv 7)).toB))).toE.toB abd_nil)))))))
      (sds_one (sd_ret (ed_callTy c_tuple (by rfl) bt.b_tuple nbTuple (abd_cons (fd_callB c_sortT (by rfl) bt.b_sorted nbSorted (abd_cons (bd_var 2 (pv 2)) abd_nil)).toE.toB abd_nil)))))))))
theorem ok__law_golden {f : Addr} {fd : FuncData} (bt : Bt mg) (ct : Ct K mg) (hm : mg "_law_golden" = some (.ref f)) (F : Fun K "_law_golden" "_law_golden" (top 65) f fd) (O__law_draw : OkD P w K mg base T "_law_draw" (top 61) 1 ["_law_deck_here", "_law_many"] spDraw) (O__law_integer : OkD P w K mg base T "_law_integer" (top 63) 2 ["_law_deck_here", "_law_pieces"] sp__law_integer) : OkD P w K mg base T "_law_golden" (top 65) 3 ["_law_deck_here"] sp__law_golden := by
  refine ⟨f, fd, hm, F, okD (g := g__law_golden) F sc__law_golden len__law_golden (fun cdv A outer s H E W F R hr hE hp hx => ?_) law__law_golden⟩
  have nd := sc__law_golden.nd
  have hu65 := hu65_of hr
  exact (sds_cons (sd_set (i := 1) nd rfl (Or.inl rfl) (ed_o (B := ⟨⟨W, T⟩, F, H⟩) (k := 1) O__law_draw bp__law_draw (hr.mono (by decide)) hx hE (ad_cons (ed_var 0 (pv 0)) (ad_cons ed_int ad_nil))))
      (sds_cons (sd_if (td_cmp (o_eq hr.units) (ed_var 1 (pv 1)).toB ed_int.toB (nomark _)) (sds_one (sd_ret (ed_tup (ad_cons ed_int (ad_cons ed_int (ad_cons (ed_bin o_add ed_int.toB (ed_o (B := ⟨⟨W, T⟩, F, H⟩) (k := 1) O__law_draw bp__law_draw (hr.mono (by decide)) hx hE (ad_cons (ed_var 0 (pv 0)) (ad_cons ed_int ad_nil))).toB) ad_nil)))))) sds_nil)
      (sds_one (sd_ret (ed_tup (ad_cons (ed_o (B := ⟨⟨W, T⟩, F, H⟩) (k := 2) O__law_integer bp__law_integer (hr.mono (by decide)) hx hE (ad_cons (ed_var 0 (pv 0)) (ad_cons ed_int ad_nil))) (ad_cons (ed_o (B := ⟨⟨W, T⟩, F, H⟩) (k := 2) O__law_integer bp__law_integer (hr.mono (by decide)) hx hE (ad_cons (ed_var 0 (pv 0)) (ad_cons ed_int ad_nil))) (ad_cons (ed_bin o_add ed_int.toB (ed_if (td_cmp o_lt (ed_var 1 (pv 1)).toB ed_int.toB (nomark _)) (ed_o (B := ⟨⟨W, T⟩, F, H⟩) (k := 1) O__law_draw bp__law_draw (hr.mono (by decide)) hx hE (ad_cons (ed_var 0 (pv 0)) (ad_cons ed_int ad_nil))) (ed_callB c_abs (by rfl) bt.b_abs nbAbs (abd_cons (ed_o (B := ⟨⟨W, T⟩, F, H⟩) (k := 2) O__law_integer bp__law_integer (hr.mono (by decide)) hx hE (ad_cons (ed_var 0 (pv 0)) (ad_cons ed_int ad_nil))).toB abd_nil))).toB) ad_nil))))))))
theorem ok__law_odd {f : Addr} {fd : FuncData} (bt : Bt mg) (ct : Ct K mg) (hm : mg "_law_odd" = some (.ref f)) (F : Fun K "_law_odd" "_law_odd" (top 66) f fd) (O__law_pick : OkD P w K mg base T "_law_pick" (top 62) 2 ["_law_deck_here", "_law_some"] sp__law_pick) : OkD P w K mg base T "_law_odd" (top 66) 3 ["_law_deck_here", "_law_it"] sp__law_odd := by
  refine ⟨f, fd, hm, F, okD (g := g__law_odd) F sc__law_odd len__law_odd (fun cdv A outer s H E W F R hr hE hp hx => ?_) law__law_odd⟩
  have nd := sc__law_odd.nd
  have hu65 := hu65_of hr
  exact (sds_cons (sd_set (i := 2) nd rfl (Or.inl rfl) (fd_lst (ad_cons ed_non (ad_cons ed_bl (ad_cons ed_bl (ad_cons ed_int (ad_cons ed_int (ad_cons (ed_un o_neg ed_int.toB) (ad_cons ed_int (ad_cons ed_str (ad_cons ed_str (ad_cons (ed_tup ad_nil) (ad_cons (ed_tup (ad_cons (ed_tup ad_nil) ad_nil)) (ad_cons (fd_lst ad_nil).toE (ad_cons ed_dic0 (ad_cons (ed_tup (ad_cons ed_int ad_nil)) (ad_cons (ed_tup (ad_cons ed_int (ad_cons ed_int ad_nil))) (ad_cons (fd_lst (ad_cons ed_int (ad_cons ed_int (ad_cons ed_int ad_nil)))).toE (ad_cons (ed_tup (ad_cons ed_int (ad_cons ed_int ad_nil))) (ad_cons (ed_callTy (c_intB ct.dig) (by rfl) bt.b_int nbInt (abd_cons (ed_bin o_repS ed_str.toB ed_int.toB).toB abd_nil)) ad_nil))))))))))))))))))).toE)
      (sds_cons (sd_set (i := 2) nd rfl (Or.inl rfl) (ed_bin o_add (ed_var 2 (pv 2)).toB (fd_lst (ad_cons ed_str (ad_cons (ed_dic1 (k := (.inr "a")) pe_str (ed_tup (ad_cons ed_int (ad_cons ed_int (ad_cons ed_int ad_nil))))) (ad_cons (ed_tup (ad_cons (ed_tup (ad_cons ed_int (ad_cons ed_int ad_nil))) (ad_cons ed_int (ad_cons ed_int ad_nil)))) (ad_cons (ed_tup (ad_cons ed_int (ad_cons ed_int (ad_cons ed_int ad_nil)))) (ad_cons (ed_tup (ad_cons ed_int (ad_cons ed_int (ad_cons ed_int (ad_cons ed_int ad_nil))))) (ad_cons (ed_tup (ad_cons ed_non (ad_cons ed_int (ad_cons ed_int ad_nil)))) (ad_cons (ed_tup (ad_cons ed_int (ad_cons ed_int (ad_cons (ed_un o_neg ed_int.toB) ad_nil)))) (ad_cons (ed_tup (ad_cons ed_int (ad_cons ed_int (ad_cons ed_bl ad_nil)))) ad_nil))))))))).toE.toB))
      (sds_cons (sd_set (i := 2) nd rfl (Or.inl rfl) (ed_bin o_add (ed_var 2 (pv 2)).toB (fd_lst (ad_cons (ed_tup (ad_cons ed_bl (ad_cons ed_int (ad_cons ed_int ad_nil)))) (ad_cons (ed_tup (ad_cons ed_int (ad_cons ed_str (ad_cons ed_int ad_nil)))) (ad_cons (ed_tup (ad_cons ed_int (ad_cons ed_int (ad_cons ed_int ad_nil)))) (ad_cons (ed_tup (ad_cons ed_int (ad_cons ed_int (ad_cons (ed_un o_neg ed_int.toB) ad_nil)))) (ad_cons (ed_tup (ad_cons (fd_lst (ad_cons ed_int ad_nil)).toE (ad_cons ed_int (ad_cons ed_int ad_nil)))) (ad_cons (ed_tup (ad_cons ed_int (ad_cons ed_int (ad_cons ed_non ad_nil)))) (ad_cons (ed_un o_neg (ed_callTy (c_intB ct.dig) (by rfl) bt.b_int nbInt (abd_cons (ed_bin o_repS ed_str.toB ed_int.toB).toB abd_nil)).toB) (ad_cons ed_str ad_nil))))))))).toE.toB))
      (sds_cons (sd_if (td_val (ed_callB (c_isiX ct.ob) (by rfl) bt.b_isinstance nbIsi (abd_cons (ed_var 1 (pv 1)).toB (abd_cons (ed_ty (by rfl) bt.b_tuple nbTuple).toB abd_nil))).toB) (sds_one (sd_set (i := 2) nd rfl (Or.inl rfl) (ed_bin o_add (ed_var 2 (pv 2)).toB (ed_bin o_mul (fd_lst (ad_cons (fd_callTy c_list (by rfl) bt.b_list nbList (abd_cons (ed_var 1 (pv 1)).toB abd_nil)).toE (ad_cons (ed_bin o_add (ed_var 1 (pv 1)).toB (ed_tup (ad_cons ed_int ad_nil)).toB) (ad_cons (ed_sl (ed_var 1 (pv 1)).toB (od_some ed_int) od_none) (ad_cons (ed_sl (ed_var 1 (pv 1)).toB od_none (od_some (ed_un o_neg ed_int.toB))) (ad_cons (ed_tup (ad_cons (ed_var 1 (pv 1)) ad_nil)) (ad_cons (ed_bin o_add (ed_sl (ed_var 1 (pv 1)).toB od_none (od_some ed_int)).toB (ed_tup (ad_cons ed_int ad_nil)).toB) (ad_cons (ed_bin o_add (ed_sl (ed_var 1 (pv 1)).toB od_none (od_some ed_int)).toB (ed_var 1 (pv 1)).toB) (ad_cons (ed_tup (ad_cons (ed_var 1 (pv 1)) (ad_cons (ed_var 1 (pv 1)) (ad_cons (ed_var 1 (pv 1)) ad_nil)))) ad_nil))))))))).toE.toB ed_int.toB).toB))) (sds_one (sd_if (td_val (ed_callB (c_isiX ct.ob) (by rfl) bt.b_isinstance nbIsi (abd_cons (ed_var 1 (pv 1)).toB (abd_cons (ed_ty (by rfl) bt.b_int nbInt).toB abd_nil))).toB) (sds_one (sd_set (i := 2) nd rfl (Or.inl rfl) (ed_bin o_add (ed_var 2 (pv 2)).toB (ed_bin o_mul (fd_lst (ad_cons (ed_cmp (o_eq hr.units) (ed_var 1 (pv 1)).toB ed_int.toB (nomark _)) (ad_cons (fd_lst (ad_cons (ed_var 1 (pv 1)) ad_nil)).toE (ad_cons (ed_tup (ad_cons (ed_var 1 (pv 1)) ad_nil)) (ad_cons (ed_callTy (c_strB rfl ct.dig) (by rfl) bt.b_str nbStr (abd_cons (ed_var 1 (pv 1)).toB abd_nil)) (ad_cons (ed_bin o_mul (ed_var 1 (pv 1)).toB ed_int.toB) (ad_cons (ed_un o_neg (ed_var 1 (pv 1)).toB) (ad_cons (ed_bin o_sub (ed_un o_neg ed_int.toB).toB (ed_callB c_abs (by rfl) bt.b_abs nbAbs (abd_cons (ed_var 1 (pv 1)).toB abd_nil)).toB) ad_nil)))))))).toE.toB ed_int.toB).toB))) sds_nil)))
      (sds_one (sd_ret (ed_o (B := ⟨⟨W, T⟩, F, H⟩) (k := 2) O__law_pick bp__law_pick (hr.mono (by decide)) hx hE (ad_cons (ed_var 0 (pv 0)) (ad_cons (ed_var 2 (pv 2)) ad_nil)))))))))
theorem ok_reduced {f : Addr} {fd : FuncData} (bt : Bt mg) (ct : Ct K mg) (hm : mg "reduced" = some (.ref f)) (F : Fun K "reduced" "reduced" (top 32) f fd) (O_need_numbers : OkD P w K mg base T "need_numbers" (top 30) 3 ["things"] sp_need_numbers) (O_normal : OkD P w K mg base T "normal" (top 13) 1 ["a", "b", "d"] sp_normal) : OkD P w K mg base T "reduced" (top 32) 4 ["number"] sp_reduced := by
  refine ⟨f, fd, hm, F, okD (g := g_reduced) F sc_reduced len_reduced (fun cdv A outer s H E W F R hr hE hp hx => ?_) law_reduced⟩
  have nd := sc_reduced.nd
  have hu65 := hu65_of hr
  exact (sds_cons (sd_drop (ed_o (B := ⟨⟨W, T⟩, F, H⟩) (k := 3) O_need_numbers bp_need_numbers (hr.mono (by decide)) hx hE (ad_cons (ed_tup (ad_cons (ed_var 0 (pv 0)) ad_nil)) ad_nil)).toB)
      (sds_one (sd_ret (ed_o (B := ⟨⟨W, T⟩, F, H⟩) (k := 1) O_normal bp_normal (hr.mono (by decide)) hx hE (ad_cons (ed_ix (ed_var 0 (pv 0)).toB ed_int.toB) (ad_cons (ed_ix (ed_var 0 (pv 0)).toB ed_int.toB) (ad_cons (ed_ix (ed_var 0 (pv 0)).toB ed_int.toB) ad_nil)))))))
theorem ok_plus {f : Addr} {fd : FuncData} (bt : Bt mg) (ct : Ct K mg) (hm : mg "plus" = some (.ref f)) (F : Fun K "plus" "plus" (top 33) f fd) (O_need_numbers : OkD P w K mg base T "need_numbers" (top 30) 3 ["things"] sp_need_numbers) (O_added : OkD P w K mg base T "added" (top 18) 2 ["one", "other"] sp_added) : OkD P w K mg base T "plus" (top 33) 4 ["one", "other"] sp_plus := by
  refine ⟨f, fd, hm, F, okD (g := g_plus) F sc_plus len_plus (fun cdv A outer s H E W F R hr hE hp hx => ?_) law_plus⟩
  have nd := sc_plus.nd
  have hu65 := hu65_of hr
  exact (sds_cons (sd_drop (ed_o (B := ⟨⟨W, T⟩, F, H⟩) (k := 3) O_need_numbers bp_need_numbers (hr.mono (by decide)) hx hE (ad_cons (ed_tup (ad_cons (ed_var 0 (pv 0)) (ad_cons (ed_var 1 (pv 1)) ad_nil))) ad_nil)).toB)
      (sds_one (sd_ret (ed_o (B := ⟨⟨W, T⟩, F, H⟩) (k := 2) O_added bp_added (hr.mono (by decide)) hx hE (ad_cons (ed_var 0 (pv 0)) (ad_cons (ed_var 1 (pv 1)) ad_nil))))))
theorem ok_minus {f : Addr} {fd : FuncData} (bt : Bt mg) (ct : Ct K mg) (hm : mg "minus" = some (.ref f)) (F : Fun K "minus" "minus" (top 34) f fd) (O_need_numbers : OkD P w K mg base T "need_numbers" (top 30) 3 ["things"] sp_need_numbers) (O_taken : OkD P w K mg base T "taken" (top 19) 3 ["one", "other"] sp_taken) : OkD P w K mg base T "minus" (top 34) 4 ["one", "other"] sp_minus := by
  refine ⟨f, fd, hm, F, okD (g := g_minus) F sc_minus len_minus (fun cdv A outer s H E W F R hr hE hp hx => ?_) law_minus⟩
  have nd := sc_minus.nd
  have hu65 := hu65_of hr
  exact (sds_cons (sd_drop (ed_o (B := ⟨⟨W, T⟩, F, H⟩) (k := 3) O_need_numbers bp_need_numbers (hr.mono (by decide)) hx hE (ad_cons (ed_tup (ad_cons (ed_var 0 (pv 0)) (ad_cons (ed_var 1 (pv 1)) ad_nil))) ad_nil)).toB)
      (sds_one (sd_ret (ed_o (B := ⟨⟨W, T⟩, F, H⟩) (k := 3) O_taken bp_taken (hr.mono (by decide)) hx hE (ad_cons (ed_var 0 (pv 0)) (ad_cons (ed_var 1 (pv 1)) ad_nil))))))
theorem ok_times {f : Addr} {fd : FuncData} (bt : Bt mg) (ct : Ct K mg) (hm : mg "times" = some (.ref f)) (F : Fun K "times" "times" (top 35) f fd) (O_need_numbers : OkD P w K mg base T "need_numbers" (top 30) 3 ["things"] sp_need_numbers) (O_multiplied : OkD P w K mg base T "multiplied" (top 20) 2 ["one", "other"] sp_multiplied) : OkD P w K mg base T "times" (top 35) 4 ["one", "other"] sp_times := by
  refine ⟨f, fd, hm, F, okD (g := g_times) F sc_times len_times (fun cdv A outer s H E W F R hr hE hp hx => ?_) law_times⟩
  have nd := sc_times.nd
  have hu65 := hu65_of hr
  exact (sds_cons (sd_drop (ed_o (B := ⟨⟨W, T⟩, F, H⟩) (k := 3) O_need_numbers bp_need_numbers (hr.mono (by decide)) hx hE (ad_cons (ed_tup (ad_cons (ed_var 0 (pv 0)) (ad_cons (ed_var 1 (pv 1)) ad_nil))) ad_nil)).toB)
      (sds_one (sd_ret (ed_o (B := ⟨⟨W, T⟩, F, H⟩) (k := 2) O_multiplied bp_multiplied (hr.mono (by decide)) hx hE (ad_cons (ed_var 0 (pv 0)) (ad_cons (ed_var 1 (pv 1)) ad_nil))))))
theorem ok_quotient {f : Addr} {fd : FuncData} (bt : Bt mg) (ct : Ct K mg) (hm : mg "quotient" = some (.ref f)) (F : Fun K "quotient" "quotient" (top 36) f fd) (O_need_numbers : OkD P w K mg base T "need_numbers" (top 30) 3 ["things"] sp_need_numbers) (O_divided : OkD P w K mg base T "divided" (top 23) 3 ["one", "other"] sp_divided) : OkD P w K mg base T "quotient" (top 36) 4 ["one", "other"] sp_quotient := by
  obtain ⟨C_DividedByZero, T_DividedByZero⟩ := ct.er_DividedByZero
  refine ⟨f, fd, hm, F, okD (g := g_quotient) F sc_quotient len_quotient (fun cdv A outer s H E W F R hr hE hp hx => ?_) law_quotient⟩
  have nd := sc_quotient.nd
  have hu65 := hu65_of hr
  exact (sds_cons (sd_drop (ed_o (B := ⟨⟨W, T⟩, F, H⟩) (k := 3) O_need_numbers bp_need_numbers (hr.mono (by decide)) hx hE (ad_cons (ed_tup (ad_cons (ed_var 0 (pv 0)) (ad_cons (ed_var 1 (pv 1)) ad_nil))) ad_nil)).toB)
      (sds_cons (sd_if (wd_and (td_cmp (o_eq hr.units) (ed_ix (ed_var 1 (pv 1)).toB ed_int.toB).toB ed_int.toB (nomark _)) (wd_and1 (td_cmp (o_eq hr.units) (ed_ix (ed_var 1 (pv 1)).toB ed_int.toB).toB ed_int.toB (nomark _)))).t (sds_one (sd_raise0 (C := C_DividedByZero) rfl T_DividedByZero (takes_of rfl rfl rfl rfl) hE)) sds_nil)
      (sds_one (sd_ret (ed_o (B := ⟨⟨W, T⟩, F, H⟩) (k := 3) O_divided bp_divided (hr.mono (by decide)) hx hE (ad_cons (ed_var 0 (pv 0)) (ad_cons (ed_var 1 (pv 1)) ad_nil)))))))
theorem ok_sign {f : Addr} {fd : FuncData} (bt : Bt mg) (ct : Ct K mg) (hm : mg "sign" = some (.ref f)) (F : Fun K "sign" "sign" (top 37) f fd) (O_need_numbers : OkD P w K mg base T "need_numbers" (top 30) 3 ["things"] sp_need_numbers) (O_sign_of : OkD P w K mg base T "sign_of" (top 15) 2 ["one"] sp_sign_of) : OkD P w K mg base T "sign" (top 37) 4 ["number"] sp_sign := by
  refine ⟨f, fd, hm, F, okD (g := g_sign) F sc_sign len_sign (fun cdv A outer s H E W F R hr hE hp hx => ?_) law_sign⟩
  have nd := sc_sign.nd
  have hu65 := hu65_of hr
  exact (sds_cons (sd_drop (ed_o (B := ⟨⟨W, T⟩, F, H⟩) (k := 3) O_need_numbers bp_need_numbers (hr.mono (by decide)) hx hE (ad_cons (ed_tup (ad_cons (ed_var 0 (pv 0)) ad_nil)) ad_nil)).toB)
      (sds_one (sd_ret (ed_o (B := ⟨⟨W, T⟩, F, H⟩) (k := 2) O_sign_of bp_sign_of (hr.mono (by decide)) hx hE (ad_cons (ed_var 0 (pv 0)) ad_nil)))))
theorem ok_is_below {f : Addr} {fd : FuncData} (bt : Bt mg) (ct : Ct K mg) (hm : mg "is_below" = some (.ref f)) (F : Fun K "is_below" "is_below" (top 38) f fd) (O_need_numbers : OkD P w K mg base T "need_numbers" (top 30) 3 ["things"] sp_need_numbers) (O_compared : OkD P w K mg base T "compared" (top 16) 2 ["one", "other"] sp_compared) : OkD P w K mg base T "is_below" (top 38) 4 ["one", "other"] sp_is_below := by
  refine ⟨f, fd, hm, F, okD (g := g_is_below) F sc_is_below len_is_below (fun cdv A outer s H E W F R hr hE hp hx => ?_) law_is_below⟩
  have nd := sc_is_below.nd
  have hu65 := hu65_of hr
  exact (sds_cons (sd_drop (ed_o (B := ⟨⟨W, T⟩, F, H⟩) (k := 3) O_need_numbers bp_need_numbers (hr.mono (by decide)) hx hE (ad_cons (ed_tup (ad_cons (ed_var 0 (pv 0)) (ad_cons (ed_var 1 (pv 1)) ad_nil))) ad_nil)).toB)
      (sds_one (sd_ret (ed_cmp o_lt (ed_o (B := ⟨⟨W, T⟩, F, H⟩) (k := 2) O_compared bp_compared (hr.mono (by decide)) hx hE (ad_cons (ed_var 0 (pv 0)) (ad_cons (ed_var 1 (pv 1)) ad_nil))).toB ed_int.toB (nomark _)))))
theorem ok_are_equal {f : Addr} {fd : FuncData} (bt : Bt mg) (ct : Ct K mg) (hm : mg "are_equal" = some (.ref f)) (F : Fun K "are_equal" "are_equal" (top 39) f fd) (O_need_numbers : OkD P w K mg base T "need_numbers" (top 30) 3 ["things"] sp_need_numbers) (O_compared : OkD P w K mg base T "compared" (top 16) 2 ["one", "other"] sp_compared) : OkD P w K mg base T "are_equal" (top 39) 4 ["one", "other"] sp_are_equal := by
  refine ⟨f, fd, hm, F, okD (g := g_are_equal) F sc_are_equal len_are_equal (fun cdv A outer s H E W F R hr hE hp hx => ?_) law_are_equal⟩
  have nd := sc_are_equal.nd
  have hu65 := hu65_of hr
  exact (sds_cons (sd_drop (ed_o (B := ⟨⟨W, T⟩, F, H⟩) (k := 3) O_need_numbers bp_need_numbers (hr.mono (by decide)) hx hE (ad_cons (ed_tup (ad_cons (ed_var 0 (pv 0)) (ad_cons (ed_var 1 (pv 1)) ad_nil))) ad_nil)).toB)
      (sds_one (sd_ret (ed_cmp (o_eq hr.units) (ed_o (B := ⟨⟨W, T⟩, F, H⟩) (k := 2) O_compared bp_compared (hr.mono (by decide)) hx hE (ad_cons (ed_var 0 (pv 0)) (ad_cons (ed_var 1 (pv 1)) ad_nil))).toB ed_int.toB (nomark _)))))
theorem ok_integer_below {f : Addr} {fd : FuncData} (bt : Bt mg) (ct : Ct K mg) (hm : mg "integer_below" = some (.ref f)) (F : Fun K "integer_below" "integer_below" (top 40) f fd) (O_need_numbers : OkD P w K mg base T "need_numbers" (top 30) 3 ["things"] sp_need_numbers) (O_floor_integer : OkD P w K mg base T "floor_integer" (top 25) 1 ["one"] sp_floor_integer) : OkD P w K mg base T "integer_below" (top 40) 4 ["number"] sp_integer_below := by
  refine ⟨f, fd, hm, F, okD (g := g_integer_below) F sc_integer_below len_integer_below (fun cdv A outer s H E W F R hr hE hp hx => ?_) law_integer_below⟩
  have nd := sc_integer_below.nd
  have hu65 := hu65_of hr
  exact (sds_cons (sd_drop (ed_o (B := ⟨⟨W, T⟩, F, H⟩) (k := 3) O_need_numbers bp_need_numbers (hr.mono (by decide)) hx hE (ad_cons (ed_tup (ad_cons (ed_var 0 (pv 0)) ad_nil)) ad_nil)).toB)
      (sds_one (sd_ret (ed_o (B := ⟨⟨W, T⟩, F, H⟩) (k := 1) O_floor_integer bp_floor_integer (hr.mono (by decide)) hx hE (ad_cons (ed_var 0 (pv 0)) ad_nil)))))
theorem ok_integer_above {f : Addr} {fd : FuncData} (bt : Bt mg) (ct : Ct K mg) (hm : mg "integer_above" = some (.ref f)) (F : Fun K "integer_above" "integer_above" (top 41) f fd) (O_need_numbers : OkD P w K mg base T "need_numbers" (top 30) 3 ["things"] sp_need_numbers) (O_ceiling_integer : OkD P w K mg base T "ceiling_integer" (top 26) 2 ["one"] sp_ceiling_integer) : OkD P w K mg base T "integer_above" (top 41) 4 ["number"] sp_integer_above := by
  refine ⟨f, fd, hm, F, okD (g := g_integer_above) F sc_integer_above len_integer_above (fun cdv A outer s H E W F R hr hE hp hx => ?_) law_integer_above⟩
  have nd := sc_integer_above.nd
  have hu65 := hu65_of hr
  exact (sds_cons (sd_drop (ed_o (B := ⟨⟨W, T⟩, F, H⟩) (k := 3) O_need_numbers bp_need_numbers (hr.mono (by decide)) hx hE (ad_cons (ed_tup (ad_cons (ed_var 0 (pv 0)) ad_nil)) ad_nil)).toB)
      (sds_one (sd_ret (ed_o (B := ⟨⟨W, T⟩, F, H⟩) (k := 2) O_ceiling_integer bp_ceiling_integer (hr.mono (by decide)) hx hE (ad_cons (ed_var 0 (pv 0)) ad_nil)))))
theorem ok_is_whole {f : Addr} {fd : FuncData} (bt : Bt mg) (ct : Ct K mg) (hm : mg "is_whole" = some (.ref f)) (F : Fun K "is_whole" "is_whole" (top 42) f fd) (O_need_numbers : OkD P w K mg base T "need_numbers" (top 30) 3 ["things"] sp_need_numbers) (O_is_whole_number : OkD P w K mg base T "is_whole_number" (top 24) 1 ["one"] sp_is_whole_number) : OkD P w K mg base T "is_whole" (top 42) 4 ["number"] sp_is_whole := by
  refine ⟨f, fd, hm, F, okD (g := g_is_whole) F sc_is_whole len_is_whole (fun cdv A outer s H E W F R hr hE hp hx => ?_) law_is_whole⟩
  have nd := sc_is_whole.nd
  have hu65 := hu65_of hr
  exact (sds_cons (sd_drop (ed_o (B := ⟨⟨W, T⟩, F, H⟩) (k := 3) O_need_numbers bp_need_numbers (hr.mono (by decide)) hx hE (ad_cons (ed_tup (ad_cons (ed_var 0 (pv 0)) ad_nil)) ad_nil)).toB)
      (sds_one (sd_ret (ed_o (B := ⟨⟨W, T⟩, F, H⟩) (k := 1) O_is_whole_number bp_is_whole_number (hr.mono (by decide)) hx hE (ad_cons (ed_var 0 (pv 0)) ad_nil)))))
theorem ok_conjugate {f : Addr} {fd : FuncData} (bt : Bt mg) (ct : Ct K mg) (hm : mg "conjugate" = some (.ref f)) (F : Fun K "conjugate" "conjugate" (top 43) f fd) (O_need_numbers : OkD P w K mg base T "need_numbers" (top 30) 3 ["things"] sp_need_numbers) (O_normal : OkD P w K mg base T "normal" (top 13) 1 ["a", "b", "d"] sp_normal) : OkD P w K mg base T "conjugate" (top 43) 4 ["number"] sp_conjugate := by
  refine ⟨f, fd, hm, F, okD (g := g_conjugate) F sc_conjugate len_conjugate (fun cdv A outer s H E W F R hr hE hp hx => ?_) law_conjugate⟩
  have nd := sc_conjugate.nd
  have hu65 := hu65_of hr
  exact (sds_cons (sd_drop (ed_o (B := ⟨⟨W, T⟩, F, H⟩) (k := 3) O_need_numbers bp_need_numbers (hr.mono (by decide)) hx hE (ad_cons (ed_tup (ad_cons (ed_var 0 (pv 0)) ad_nil)) ad_nil)).toB)
      (sds_one (sd_ret (ed_o (B := ⟨⟨W, T⟩, F, H⟩) (k := 1) O_normal bp_normal (hr.mono (by decide)) hx hE (ad_cons (ed_bin o_add (ed_ix (ed_var 0 (pv 0)).toB ed_int.toB).toB (ed_ix (ed_var 0 (pv 0)).toB ed_int.toB).toB) (ad_cons (ed_un o_neg (ed_ix (ed_var 0 (pv 0)).toB ed_int.toB).toB) (ad_cons (ed_ix (ed_var 0 (pv 0)).toB ed_int.toB) ad_nil)))))))
theorem ok_keys_from {f : Addr} {fd : FuncData} (bt : Bt mg) (ct : Ct K mg) (hm : mg "keys_from" = some (.ref f)) (F : Fun K "keys_from" "keys_from" (top 52) f fd) (O_normal : OkD P w K mg base T "normal" (top 13) 1 ["a", "b", "d"] sp_normal) (O_taken : OkD P w K mg base T "taken" (top 19) 3 ["one", "other"] sp_taken) (O_negative : OkD P w K mg base T "negative" (top 17) 1 ["one"] sp_negative) (O_times_g : OkD P w K mg base T "times_g" (top 21) 1 ["one"] sp_times_g) : OkD P w K mg base T "keys_from" (top 52) 4 ["one", "other"] sp_keys_from := by
  refine ⟨f, fd, hm, F, okD (g := g_keys_from) F sc_keys_from len_keys_from (fun cdv A outer s H E W F R hr hE hp hx => ?_) law_keys_from⟩
  have nd := sc_keys_from.nd
  have hu65 := hu65_of hr
  exact (sds_cons (sd_setL (i := 2) nd rfl (Or.inl rfl) (fd_lst (ad_cons (ed_o (B := ⟨⟨W, T⟩, F, H⟩) (k := 1) O_normal bp_normal (hr.mono (by decide)) hx hE (ad_cons (ed_ix (ed_var 0 (pv 0)).toB ed_int.toB) (ad_cons (ed_ix (ed_var 0 (pv 0)).toB ed_int.toB) (ad_cons (ed_ix (ed_var 0 (pv 0)).toB ed_int.toB) ad_nil)))) (ad_cons (ed_o (B := ⟨⟨W, T⟩, F, H⟩) (k := 1) O_normal bp_normal (hr.mono (by decide)) hx hE (ad_cons (ed_ix (ed_var 1 (pv 1)).toB ed_int.toB) (ad_cons (ed_ix (ed_var 1 (pv 1)).toB ed_int.toB) (ad_cons (ed_ix (ed_var 1 (pv 1)).toB ed_int.toB) ad_nil)))) ad_nil))))
      (sds_cons (sd_for hp rfl (pid_rng2 (by rfl) bt.b_range (ad_cons ed_int (ad_cons ed_int ad_nil))) (gd_name (pg_name (i := 3) nd rfl (Or.inl rfl))) (sds_one (sd_appE (pv 2) (ed_o (B := ⟨⟨W, T⟩, F, H⟩) (k := 3) O_taken bp_taken (hr.mono (by decide)) hx hE (ad_cons (ed_o (B := ⟨⟨W, T⟩, F, H⟩) (k := 1) O_negative bp_negative (hr.mono (by decide)) hx hE (ad_cons (ed_o (B := ⟨⟨W, T⟩, F, H⟩) (k := 1) O_times_g bp_times_g (hr.mono (by decide)) hx hE (ad_cons (ed_ix (bd_var 2 (pv 2)) (ed_var 3 (pv 3)).toB) ad_nil)) ad_nil)) (ad_cons (ed_ix (bd_var 2 (pv 2)) (ed_bin o_sub (ed_var 3 (pv 3)).toB ed_int.toB).toB) ad_nil))))))
      (sds_one (sd_ret (ed_callTy c_tuple (by rfl) bt.b_tuple nbTuple (abd_cons (bd_var 2 (pv 2)) abd_nil))))))
theorem ok_is_side {f : Addr} {fd : FuncData} (bt : Bt mg) (ct : Ct K mg) (hm : mg "is_side" = some (.ref f)) (F : Fun K "is_side" "is_side" (top 55) f fd) (O_sides_of : OkD P w K mg base T "sides_of" (top 54) 3 ["keys"] sp_sides_of) (O_is_integer : OkD P w K mg base T "is_integer" (top 11) 1 ["thing"] sp_is_integer) : OkD P w K mg base T "is_side" (top 55) 4 ["keys", "thing"] sp_is_side := by
  refine ⟨f, fd, hm, F, okD (g := g_is_side) F sc_is_side len_is_side (fun cdv A outer s H E W F R hr hE hp hx => ?_) law_is_side⟩
  have nd := sc_is_side.nd
  have hu65 := hu65_of hr
  exact (sds_cons (sd_if (wd_or (td_not (td_val (ed_callB (c_isiX ct.ob) (by rfl) bt.b_isinstance nbIsi (abd_cons (ed_var 1 (pv 1)).toB (abd_cons (ed_ty (by rfl) bt.b_tuple nbTuple).toB abd_nil))).toB)) (wd_or (td_cmp (o_ne hr.units) (ed_callB c_len (by rfl) bt.b_len nbLen (abd_cons (ed_var 1 (pv 1)).toB abd_nil)).toB ed_int.toB (nomark _)) (wd_or1 (td_not (td_val (ed_callB (c_all rfl) (by rfl) bt.b_all nbAll (abd_cons (fd_lc (own := [("part", 2)]) rfl nd (pid_data (ed_var 1 (pv 1))) (blkOk_by (own := [("part", 2)]) (N := ["keys", "thing", "part"]) (sc := defScope (top 55)) (by decide +kernel)) (ct_name (by decide)) (fun _ _ _ _ _ => pg_name (i := 2) nd rfl (Or.inl rfl)) (fun _ _ _ _ _ => tds_nil) (fun _ _ _ _ _ => (ed_o (B := ⟨⟨W, T⟩, F, H⟩) (k := 1) O_is_integer bp_is_integer (hr.mono (by decide)) passL FinE.none (ad_cons (ed_var 2 (pv 2)) ad_nil)))).toE.toB abd_nil)).toB))))).t (sds_one (sd_ret ed_bl)) sds_nil)
      (sds_one (sd_ret (ed_cmp (o_in hu65) (ed_var 1 (pv 1)).toB (ed_o (B := ⟨⟨W, T⟩, F, H⟩) (k := 3) O_sides_of bp_sides_of (hr.mono (by decide)) hx hE (ad_cons (ed_var 0 (pv 0)) ad_nil)).toB (by rfl)))))
theorem ok_number_text {f : Addr} {fd : FuncData} (bt : Bt mg) (ct : Ct K mg) (hm : mg "number_text" = some (.ref f)) (F : Fun K "number_text" "number_text" (top 45) f fd) (O_reduced : OkD P w K mg base T "reduced" (top 32) 4 ["number"] sp_reduced) : OkD P w K mg base T "number_text" (top 45) 5 ["number"] sp_number_text := by
  refine ⟨f, fd, hm, F, okD (g := g_number_text) F sc_number_text len_number_text (fun cdv A outer s H E W F R hr hE hp hx => ?_) law_number_text⟩
  have nd := sc_number_text.nd
  have hu65 := hu65_of hr
  exact (sds_cons (sd_setT (is := [1, 2, 3]) rfl (na_cons (pg_name (i := 1) nd rfl (Or.inl rfl)) (na_cons (pg_name (i := 2) nd rfl (Or.inl rfl)) (na_cons (pg_name (i := 3) nd rfl (Or.inl rfl)) na_nil))) (ed_o (B := ⟨⟨W, T⟩, F, H⟩) (k := 4) O_reduced bp_reduced (hr.mono (by decide)) hx hE (ad_cons (ed_var 0 (pv 0)) ad_nil)))
      (sds_cons (sd_set (i := 4) nd rfl (Or.inl rfl) (ed_if (td_cmp o_ge (ed_var 2 (pv 2)).toB ed_int.toB (nomark _)) ed_str ed_str))
      (sds_cons (sd_set (i := 5) nd rfl (Or.inl rfl) (ed_bin o_add (ed_bin o_add (ed_bin o_add (ed_callTy (c_strB rfl ct.dig) (by rfl) bt.b_str nbStr (abd_cons (ed_var 1 (pv 1)).toB abd_nil)).toB (ed_var 4 (pv 4)).toB).toB (ed_callTy (c_strB rfl ct.dig) (by rfl) bt.b_str nbStr (abd_cons (ed_callB c_abs (by rfl) bt.b_abs nbAbs (abd_cons (ed_var 2 (pv 2)).toB abd_nil)).toB abd_nil)).toB).toB ed_str.toB))
      (sds_one (sd_ret (ed_if (td_cmp (o_eq hr.units) (ed_var 3 (pv 3)).toB ed_int.toB (nomark _)) (ed_var 5 (pv 5)) (ed_bin o_add (ed_bin o_add (ed_var 5 (pv 5)).toB ed_str.toB).toB (ed_callTy (c_strB rfl ct.dig) (by rfl) bt.b_str nbStr (abd_cons (ed_var 3 (pv 3)).toB abd_nil)).toB)))))))
theorem ok_Floor {f C : Addr} {fd : FuncData} {dvs : List V} (bt : Bt mg) (ct : Ct K mg) (hm : mg "Floor" = some (.ref C)) (M : Mk K C f) (F : FunD K "__init__" "Floor.__init__" (defArgs (methS 56 0)) (defBody (methS 56 0)) (defScope (methS 56 0)) dvs [] f fd) (hd : dvs ≠ []) (hD : ∀ F, Reps ⟨K, mg⟩ F dvs [.tup [.int 0, .int 0, .int 0, .int 0, .int 0]]) (O_keys_from : OkD P w K mg base T "keys_from" (top 52) 4 ["one", "other"] sp_keys_from) (O_is_side : OkD P w K mg base T "is_side" (top 55) 4 ["keys", "thing"] sp_is_side) (O_is_number : OkD P w K mg base T "is_number" (top 12) 2 ["thing"] sp_is_number) : OkM P w K mg base T "Floor" "Floor.__init__" (methS 56 0) 5 ["one", "other", "side"] [.tup [.int 0, .int 0, .int 0, .int 0, .int 0]] sp_Floor := by
  obtain ⟨C_BadNumber, fI_BadNumber, T_BadNumber, N_BadNumber⟩ := ct.er_BadNumber
  obtain ⟨C_BadSide, fI_BadSide, T_BadSide, N_BadSide⟩ := ct.er_BadSide
  refine ⟨C, f, fd, dvs, hm, M, F, hd, hD, okInit (g := g_Floor) hm F sc_Floor (by decide) len_Floor (fun cdv A outer s H E W F H0 R hr hE hp hx => ?_) law_Floor⟩
  have nd := sc_Floor.nd
  have hu65 := hu65_of hr
  exact (sds_cons (sd_for hp rfl (pid_data (ed_tup (ad_cons (ed_var 1 (pv 1)) (ad_cons (ed_var 2 (pv 2)) ad_nil)))) (gd_name (pg_name (i := 4) nd rfl (Or.inl rfl))) (sds_one (sd_if (td_not (td_val (ed_o (B := ⟨⟨W, T⟩, F, H0⟩) (k := 2) O_is_number bp_is_number (hr.mono (by decide)) hx hE (ad_cons (ed_var 4 (pv 4)) ad_nil)).toB)) (sds_one (sd_raise rfl T_BadNumber N_BadNumber hr (takes_of rfl rfl rfl rfl) hE (ed_var 4 (pv 4)))) sds_nil)))
      (sds_cons (sd_set (i := 5) nd rfl (Or.inl rfl) (ed_o (B := ⟨⟨W, T⟩, F, H0⟩) (k := 4) O_keys_from bp_keys_from (hr.mono (by decide)) hx hE (ad_cons (ed_var 1 (pv 1)) (ad_cons (ed_var 2 (pv 2)) ad_nil))))
      (sds_cons (sd_if (td_not (td_val (ed_o (B := ⟨⟨W, T⟩, F, H0⟩) (k := 4) O_is_side bp_is_side (hr.mono (by decide)) hx hE (ad_cons (ed_var 5 (pv 5)) (ad_cons (ed_var 3 (pv 3)) ad_nil))).toB)) (sds_one (sd_raise rfl T_BadSide N_BadSide hr (takes_of rfl rfl rfl rfl) hE (ed_var 3 (pv 3)))) sds_nil)
      (sds_cons (sd_setF ct.fld (pv 0) (ed_var 5 (pv 5)))
      (sds_one (sd_setF ct.fld (pv 0) (ed_var 3 (pv 3))))))))
theorem ok__law_bent' {f : Addr} {fd : FuncData} (bt : Bt mg) (ct : Ct K mg) (hm : mg "_law_bent" = some (.ref f)) (F : Fun K "_law_bent" "_law_bent" (top 67) f fd) (O__law_draw : OkD P w K mg base T "_law_draw" (top 61) 1 ["_law_deck_here", "_law_many"] spDraw) (O__law_odd : OkD P w K mg base T "_law_odd" (top 66) 3 ["_law_deck_here", "_law_it"] sp__law_odd) : ∀ n, OkD P w K mg base T "_law_bent" (top 67) (3 + n + 1) ["_law_deck_here", "_law_it"] (sp__law_bent n) := by
  have step : ∀ (n : Nat) (spR : DSp), OkD P w K mg base T "_law_bent" (top 67) (3 + n) ["_law_deck_here", "_law_it"] spR → (∀ W ds Q R, sp__law_bent n W ds Q R → g__law_bent spR W R (endsD Q) (startD 3 ds)) → OkD P w K mg base T "_law_bent" (top 67) (3 + n + 1) ["_law_deck_here", "_law_it"] (sp__law_bent n) := by
    intro n spR O_rec law
    refine ⟨f, fd, hm, F, okD (g := g__law_bent spR) F sc__law_bent (len__law_bent n) (fun cdv A outer s H E W F R hr hE hp hx => ?_) law⟩
    have nd := sc__law_bent.nd
    have hu65 := hu65_of hr
    exact (sds_cons (sd_if (wd_or (td_not (td_val (ed_callB (c_isiX ct.ob) (by rfl) bt.b_isinstance nbIsi (abd_cons (ed_var 1 (pv 1)).toB (abd_cons (ed_ty (by rfl) bt.b_tuple nbTuple).toB abd_nil))).toB)) (wd_or (td_cmp (o_eq hr.units) (ed_var 1 (pv 1)).toB (ed_tup ad_nil).toB (nomark _)) (wd_or1 (td_cmp (o_eq hr.units) (ed_o (B := ⟨⟨W, T⟩, F, H⟩) (k := 1) O__law_draw bp__law_draw (hr.mono (by omega)) hx hE (ad_cons (ed_var 0 (pv 0)) (ad_cons ed_int ad_nil))).toB ed_int.toB (nomark _))))).t (sds_one (sd_ret (ed_o (B := ⟨⟨W, T⟩, F, H⟩) (k := 3) O__law_odd bp__law_odd (hr.mono (by omega)) hx hE (ad_cons (ed_var 0 (pv 0)) (ad_cons (ed_var 1 (pv 1)) ad_nil))))) sds_nil)
      (sds_cons (sd_set (i := 2) nd rfl (Or.inl rfl) (ed_o (B := ⟨⟨W, T⟩, F, H⟩) (k := 1) O__law_draw bp__law_draw (hr.mono (by omega)) hx hE (ad_cons (ed_var 0 (pv 0)) (ad_cons (ed_callB c_len (by rfl) bt.b_len nbLen (abd_cons (ed_var 1 (pv 1)).toB abd_nil)) ad_nil))))
      (sds_one (sd_ret (ed_bin o_add (ed_bin o_add (ed_sl (ed_var 1 (pv 1)).toB od_none (od_some (ed_var 2 (pv 2)))).toB (ed_tup (ad_cons (ed_o (B := ⟨⟨W, T⟩, F, H⟩) (k := 3 + n) O_rec bp__law_bent (hr.mono (by omega)) hx hE (ad_cons (ed_var 0 (pv 0)) (ad_cons (ed_ix (ed_var 1 (pv 1)).toB (ed_var 2 (pv 2)).toB) ad_nil))) ad_nil)).toB).toB (ed_sl (ed_var 1 (pv 1)).toB (od_some (ed_bin o_add (ed_var 2 (pv 2)).toB ed_int.toB)) od_none).toB)))))
  intro n
  induction n with
  | zero => exact step 0 _ (okNone hm F) law__law_bent_0
  | succ n ih => exact step (n + 1) _ ih (law__law_bent n)
theorem ok__law_bent {f : Addr} {fd : FuncData} (bt : Bt mg) (ct : Ct K mg) (hm : mg "_law_bent" = some (.ref f)) (F : Fun K "_law_bent" "_law_bent" (top 67) f fd) (O__law_draw : OkD P w K mg base T "_law_draw" (top 61) 1 ["_law_deck_here", "_law_many"] spDraw) (O__law_odd : OkD P w K mg base T "_law_odd" (top 66) 3 ["_law_deck_here", "_law_it"] sp__law_odd) : OkD P w K mg base T "_law_bent" (top 67) 5 ["_law_deck_here", "_law_it"] (sp__law_bent 1) := ok__law_bent' bt ct hm F O__law_draw O__law_odd 1
theorem ok__law_value {f : Addr} {fd : FuncData} (bt : Bt mg) (ct : Ct K mg) (hm : mg "_law_value" = some (.ref f)) (F : Fun K "_law_value" "_law_value" (top 69) f fd) (O__law_draw : OkD P w K mg base T "_law_draw" (top 61) 1 ["_law_deck_here", "_law_many"] spDraw) (O__law_golden : OkD P w K mg base T "_law_golden" (top 65) 3 ["_law_deck_here"] sp__law_golden) (O__law_odd : OkD P w K mg base T "_law_odd" (top 66) 3 ["_law_deck_here", "_law_it"] sp__law_odd) (O__law_bent : OkD P w K mg base T "_law_bent" (top 67) 5 ["_law_deck_here", "_law_it"] (sp__law_bent 1)) : OkD P w K mg base T "_law_value" (top 69) 6 ["_law_deck_here"] sp__law_value := by
  refine ⟨f, fd, hm, F, okD (g := g__law_value) F sc__law_value len__law_value (fun cdv A outer s H E W F R hr hE hp hx => ?_) law__law_value⟩
  have nd := sc__law_value.nd
  have hu65 := hu65_of hr
  exact (sds_cons (sd_par2 (i := 1) (j := 2) rfl nd rfl rfl (by decide) rfl rfl (ad_cons (ed_o (B := ⟨⟨W, T⟩, F, H⟩) (k := 1) O__law_draw bp__law_draw (hr.mono (by decide)) hx hE (ad_cons (ed_var 0 (pv 0)) (ad_cons ed_int ad_nil))) (ad_cons (ed_o (B := ⟨⟨W, T⟩, F, H⟩) (k := 3) O__law_golden bp__law_golden (hr.mono (by decide)) hx hE (ad_cons (ed_var 0 (pv 0)) ad_nil)) ad_nil)) (by rfl))
      (sds_cons (sd_if (td_cmp (o_eq hr.units) (ed_var 1 (pv 1)).toB ed_int.toB (nomark _)) (sds_one (sd_ret (ed_o (B := ⟨⟨W, T⟩, F, H⟩) (k := 3) O__law_odd bp__law_odd (hr.mono (by decide)) hx hE (ad_cons (ed_var 0 (pv 0)) (ad_cons (ed_var 2 (pv 2)) ad_nil))))) sds_nil)
      (sds_one (sd_ret (ed_if (td_cmp o_lt (ed_var 1 (pv 1)).toB ed_int.toB (nomark _)) (ed_o (B := ⟨⟨W, T⟩, F, H⟩) (k := 5) O__law_bent bp__law_bent (hr.mono (by decide)) hx hE (ad_cons (ed_var 0 (pv 0)) (ad_cons (ed_var 2 (pv 2)) ad_nil))) (ed_var 2 (pv 2)))))))
theorem ok__law_two_right {f : Addr} {c__law_two_right Pt__law_two_right : Addr} (tb__law_two_right : LamX.TabB base mg c__law_two_right Pt__law_two_right) (inT__law_two_right : (Pt__law_two_right, ql__law_two_right) ∈ T) (one__law_two_right : ∀ p ∈ T, p.1 = Pt__law_two_right → p.2 = ql__law_two_right) (bt : Bt mg) (ct : Ct K mg) (hm : mg "_law_two_right" = some (.ref f)) (F : FunC K "_law_two_right" (top 71) f (.ref c__law_two_right)) (O__law_is_golden : OkD P w K mg base T "_law_is_golden" (top 68) 1 ["_law_thing"] sp__law_is_golden) (O__law_refused : ∀ k, OkL P w K mg base T "_law_refused" (top 70) k ["_law_call", "e", "_law_is_other"] "_law_call" sp__law_refused) (O__law_same : OkG P w K mg base T "_law_same" (top 64) 1 ["_law_told", "_law_due"] sp__law_same) (O_plus : OkD P w K mg base T "plus" (top 33) 4 ["one", "other"] sp_plus) (O_minus : OkD P w K mg base T "minus" (top 34) 4 ["one", "other"] sp_minus) (O_times : OkD P w K mg base T "times" (top 35) 4 ["one", "other"] sp_times) (O_is_below : OkD P w K mg base T "is_below" (top 38) 4 ["one", "other"] sp_is_below) (O_are_equal : OkD P w K mg base T "are_equal" (top 39) 4 ["one", "other"] sp_are_equal) (O_quotient : OkD P w K mg base T "quotient" (top 36) 4 ["one", "other"] sp_quotient) : OkG P w K mg base T "_law_two_right" (top 71) 7 ["_law_p", "_law_q"] sp__law_two_right := by
  refine okGc (g := g__law_two_right) hm F sc__law_two_right len__law_two_right (fun A outer s H E W F R hG hr hE hp hx => ?_) law__law_two_right
  have nd := sc__law_two_right.nd
  have hu65 := hu65_of hr
  exact (sds_cons (sd_setT (is := [2, 3]) rfl (na_cons (pg_name (i := 2) nd rfl (Or.inl rfl)) (na_cons (pg_name (i := 3) nd rfl (Or.inl rfl)) na_nil)) (ed_tup (ad_cons ed_non (ad_cons ed_non ad_nil))))
      (sds_cons (sd_if (td_not (td_val (ed_o (B := ⟨⟨W, T⟩, F, H⟩) (k := 1) O__law_is_golden bp__law_is_golden (hr.mono (by decide)) hx hE (ad_cons (ed_var 0 (pv 0)) ad_nil)).toB)) (sds_one (sd_set (i := 2) nd rfl (Or.inl rfl) (ed_tup (ad_cons ed_str (ad_cons (ed_var 0 (pv 0)) ad_nil))))) (sds_one (sd_if (td_not (td_val (ed_o (B := ⟨⟨W, T⟩, F, H⟩) (k := 1) O__law_is_golden bp__law_is_golden (hr.mono (by decide)) hx hE (ad_cons (ed_var 1 (pv 1)) ad_nil)).toB)) (sds_one (sd_set (i := 2) nd rfl (Or.inl rfl) (ed_tup (ad_cons ed_str (ad_cons (ed_var 1 (pv 1)) ad_nil))))) (sds_one (sd_if (wd_and (td_cmp (o_eq hr.units) (ed_ix (ed_var 1 (pv 1)).toB ed_int.toB).toB ed_int.toB (nomark _)) (wd_and1 (td_cmp (o_eq hr.units) (ed_ix (ed_var 1 (pv 1)).toB ed_int.toB).toB ed_int.toB (nomark _)))).t (sds_one (sd_set (i := 3) nd rfl (Or.inl rfl) (ed_tup (ad_cons ed_str (ad_cons ed_bl ad_nil))))) sds_nil)))))
      (sds_cons (sd_setL (i := 4) nd rfl (Or.inl rfl) (fd_lst (ad_cons (ed_lam (B := ⟨⟨W, T⟩, F, H⟩) (fl := fun R => (gCall sp_plus W R (gCons (gVar 0) (gCons (gVar 1) gNil)))) (k := 4) (O__law_refused _) bp__law_refused tb__law_two_right rfl inT__law_two_right one__law_two_right (hr.mono (by decide)) (LamX.lamS_by (sc := defScope (top 71)) (by decide +kernel)) (fun A outer s H E f c' F' H' R hr hE hx => (ed_o (B := ⟨⟨W, T⟩, F', H'⟩) (k := 4) O_plus bp_plus (hr.mono (by decide)) hx hE (ad_cons (ed_var 0 (pv 0)) (ad_cons (ed_var 1 (pv 1)) ad_nil)))) rfl vis__law_refused rfl (fun _ _ _ _ _ => rfl)) ad_nil)))
      (sds_cons (sd_appE (pv 4) (ed_lam (B := ⟨⟨W, T⟩, F, H⟩) (fl := fun R => (gCall sp_minus W R (gCons (gVar 0) (gCons (gVar 1) gNil)))) (k := 4) (O__law_refused _) bp__law_refused tb__law_two_right rfl inT__law_two_right one__law_two_right (hr.mono (by decide)) (LamX.lamS_by (sc := defScope (top 71)) (by decide +kernel)) (fun A outer s H E f c' F' H' R hr hE hx => (ed_o (B := ⟨⟨W, T⟩, F', H'⟩) (k := 4) O_minus bp_minus (hr.mono (by decide)) hx hE (ad_cons (ed_var 0 (pv 0)) (ad_cons (ed_var 1 (pv 1)) ad_nil)))) rfl vis__law_refused rfl (fun _ _ _ _ _ => rfl)))
      (sds_cons (sd_appE (pv 4) (ed_lam (B := ⟨⟨W, T⟩, F, H⟩) (fl := fun R => (gCall sp_times W R (gCons (gVar 0) (gCons (gVar 1) gNil)))) (k := 4) (O__law_refused _) bp__law_refused tb__law_two_right rfl inT__law_two_right one__law_two_right (hr.mono (by decide)) (LamX.lamS_by (sc := defScope (top 71)) (by decide +kernel)) (fun A outer s H E f c' F' H' R hr hE hx => (ed_o (B := ⟨⟨W, T⟩, F', H'⟩) (k := 4) O_times bp_times (hr.mono (by decide)) hx hE (ad_cons (ed_var 0 (pv 0)) (ad_cons (ed_var 1 (pv 1)) ad_nil)))) rfl vis__law_refused rfl (fun _ _ _ _ _ => rfl)))
      (sds_cons (sd_appE (pv 4) (ed_lam (B := ⟨⟨W, T⟩, F, H⟩) (fl := fun R => (gCall sp_is_below W R (gCons (gVar 0) (gCons (gVar 1) gNil)))) (k := 4) (O__law_refused _) bp__law_refused tb__law_two_right rfl inT__law_two_right one__law_two_right (hr.mono (by decide)) (LamX.lamS_by (sc := defScope (top 71)) (by decide +kernel)) (fun A outer s H E f c' F' H' R hr hE hx => (ed_o (B := ⟨⟨W, T⟩, F', H'⟩) (k := 4) O_is_below bp_is_below (hr.mono (by decide)) hx hE (ad_cons (ed_var 0 (pv 0)) (ad_cons (ed_var 1 (pv 1)) ad_nil)))) rfl vis__law_refused rfl (fun _ _ _ _ _ => rfl)))
      (sds_cons (sd_appE (pv 4) (ed_lam (B := ⟨⟨W, T⟩, F, H⟩) (fl := fun R => (gCall sp_are_equal W R (gCons (gVar 0) (gCons (gVar 1) gNil)))) (k := 4) (O__law_refused _) bp__law_refused tb__law_two_right rfl inT__law_two_right one__law_two_right (hr.mono (by decide)) (LamX.lamS_by (sc := defScope (top 71)) (by decide +kernel)) (fun A outer s H E f c' F' H' R hr hE hx => (ed_o (B := ⟨⟨W, T⟩, F', H'⟩) (k := 4) O_are_equal bp_are_equal (hr.mono (by decide)) hx hE (ad_cons (ed_var 0 (pv 0)) (ad_cons (ed_var 1 (pv 1)) ad_nil)))) rfl vis__law_refused rfl (fun _ _ _ _ _ => rfl)))
      (sds_cons (sd_appE (pv 4) (ed_lam (B := ⟨⟨W, T⟩, F, H⟩) (fl := fun R => (gCallK sp_plus 0 2 [1, 0] W R gNil (gCons (gVar 1) (gCons (gVar 0) gNil)))) (k := 4) (O__law_refused _) bp__law_refused tb__law_two_right rfl inT__law_two_right one__law_two_right (hr.mono (by decide)) (LamX.lamS_by (sc := defScope (top 71)) (by decide +kernel)) (fun A outer s H E f c' F' H' R hr hE hx => (ed_ok0 (B := ⟨⟨W, T⟩, F', H'⟩) (k := 4) O_plus (by decide) kb_plus_0 (hr.mono (by decide)) hx hE (kd_cons (ed_var 1 (pv 1)) (kd_cons (ed_var 0 (pv 0)) kd_nil)))) rfl vis__law_refused rfl (fun _ _ _ _ _ => rfl)))
      (sds_cons (sd_appE (pv 4) (ed_lam (B := ⟨⟨W, T⟩, F, H⟩) (fl := fun R => (gCallK sp_minus 0 2 [1, 0] W R gNil (gCons (gVar 1) (gCons (gVar 0) gNil)))) (k := 4) (O__law_refused _) bp__law_refused tb__law_two_right rfl inT__law_two_right one__law_two_right (hr.mono (by decide)) (LamX.lamS_by (sc := defScope (top 71)) (by decide +kernel)) (fun A outer s H E f c' F' H' R hr hE hx => (ed_ok0 (B := ⟨⟨W, T⟩, F', H'⟩) (k := 4) O_minus (by decide) kb_minus_0 (hr.mono (by decide)) hx hE (kd_cons (ed_var 1 (pv 1)) (kd_cons (ed_var 0 (pv 0)) kd_nil)))) rfl vis__law_refused rfl (fun _ _ _ _ _ => rfl)))
      (sds_cons (sd_appE (pv 4) (ed_lam (B := ⟨⟨W, T⟩, F, H⟩) (fl := fun R => (gCallK sp_times 0 2 [1, 0] W R gNil (gCons (gVar 1) (gCons (gVar 0) gNil)))) (k := 4) (O__law_refused _) bp__law_refused tb__law_two_right rfl inT__law_two_right one__law_two_right (hr.mono (by decide)) (LamX.lamS_by (sc := defScope (top 71)) (by decide +kernel)) (fun A outer s H E f c' F' H' R hr hE hx => (ed_ok0 (B := ⟨⟨W, T⟩, F', H'⟩) (k := 4) O_times (by decide) kb_times_0 (hr.mono (by decide)) hx hE (kd_cons (ed_var 1 (pv 1)) (kd_cons (ed_var 0 (pv 0)) kd_nil)))) rfl vis__law_refused rfl (fun _ _ _ _ _ => rfl)))
      (sds_cons (sd_appE (pv 4) (ed_lam (B := ⟨⟨W, T⟩, F, H⟩) (fl := fun R => (gCallK sp_is_below 0 2 [1, 0] W R gNil (gCons (gVar 1) (gCons (gVar 0) gNil)))) (k := 4) (O__law_refused _) bp__law_refused tb__law_two_right rfl inT__law_two_right one__law_two_right (hr.mono (by decide)) (LamX.lamS_by (sc := defScope (top 71)) (by decide +kernel)) (fun A outer s H E f c' F' H' R hr hE hx => (ed_ok0 (B := ⟨⟨W, T⟩, F', H'⟩) (k := 4) O_is_below (by decide) kb_is_below_0 (hr.mono (by decide)) hx hE (kd_cons (ed_var 1 (pv 1)) (kd_cons (ed_var 0 (pv 0)) kd_nil)))) rfl vis__law_refused rfl (fun _ _ _ _ _ => rfl)))
      (sds_cons (sd_appE (pv 4) (ed_lam (B := ⟨⟨W, T⟩, F, H⟩) (fl := fun R => (gCallK sp_are_equal 0 2 [1, 0] W R gNil (gCons (gVar 1) (gCons (gVar 0) gNil)))) (k := 4) (O__law_refused _) bp__law_refused tb__law_two_right rfl inT__law_two_right one__law_two_right (hr.mono (by decide)) (LamX.lamS_by (sc := defScope (top 71)) (by decide +kernel)) (fun A outer s H E f c' F' H' R hr hE hx => (ed_ok0 (B := ⟨⟨W, T⟩, F', H'⟩) (k := 4) O_are_equal (by decide) kb_are_equal_0 (hr.mono (by decide)) hx hE (kd_cons (ed_var 1 (pv 1)) (kd_cons (ed_var 0 (pv 0)) kd_nil)))) rfl vis__law_refused rfl (fun _ _ _ _ _ => rfl)))
      (sds_cons (sd_setL (i := 5) nd rfl (Or.inl rfl) (fd_lst (ad_cons (ed_lam (B := ⟨⟨W, T⟩, F, H⟩) (fl := fun R => (gCall sp_quotient W R (gCons (gVar 0) (gCons (gVar 1) gNil)))) (k := 4) (O__law_refused _) bp__law_refused tb__law_two_right rfl inT__law_two_right one__law_two_right (hr.mono (by decide)) (LamX.lamS_by (sc := defScope (top 71)) (by decide +kernel)) (fun A outer s H E f c' F' H' R hr hE hx => (ed_o (B := ⟨⟨W, T⟩, F', H'⟩) (k := 4) O_quotient bp_quotient (hr.mono (by decide)) hx hE (ad_cons (ed_var 0 (pv 0)) (ad_cons (ed_var 1 (pv 1)) ad_nil)))) rfl vis__law_refused rfl (fun _ _ _ _ _ => rfl)) ad_nil)))
      (sds_cons (sd_appE (pv 5) (ed_lam (B := ⟨⟨W, T⟩, F, H⟩) (fl := fun R => (gCallK sp_quotient 0 2 [1, 0] W R gNil (gCons (gVar 1) (gCons (gVar 0) gNil)))) (k := 4) (O__law_refused _) bp__law_refused tb__law_two_right rfl inT__law_two_right one__law_two_right (hr.mono (by decide)) (LamX.lamS_by (sc := defScope (top 71)) (by decide +kernel)) (fun A outer s H E f c' F' H' R hr hE hx => (ed_ok0 (B := ⟨⟨W, T⟩, F', H'⟩) (k := 4) O_quotient (by decide) kb_quotient_0 (hr.mono (by decide)) hx hE (kd_cons (ed_var 1 (pv 1)) (kd_cons (ed_var 0 (pv 0)) kd_nil)))) rfl vis__law_refused rfl (fun _ _ _ _ _ => rfl)))
      (sds_one (sd_fz 5 (sd_fz 4 (sd_ret (ed_and (ed_g (B := ⟨⟨W, T⟩, F, H⟩) (k := 1) O__law_same bp__law_same hG (hr.mono (by decide)) hx hE (ad_cons (ed_var 4 (pv 4)) (ad_cons (ed_bin o_mul (fd_lst (ad_cons (ed_var 2 (pv 2)) ad_nil)).toE.toB ed_int.toB) ad_nil))) (ed_one (ed_g (B := ⟨⟨W, T⟩, F, H⟩) (k := 1) O__law_same bp__law_same hG (hr.mono (by decide)) hx hE (ad_cons (ed_var 5 (pv 5)) (ad_cons (ed_bin o_mul (fd_lst (ad_cons (ed_if (td_cmp o_isNot (ed_var 2 (pv 2)).toB ed_non.toB (nomark _)) (ed_var 2 (pv 2)) (ed_var 3 (pv 3))) ad_nil)).toE.toB ed_int.toB) ad_nil)))))))))))))))))))))))
theorem ok__law_is_floor_refused {f : Addr} {c__law_is_floor_refused Pt__law_is_floor_refused : Addr} (tb__law_is_floor_refused : LamX.TabB base mg c__law_is_floor_refused Pt__law_is_floor_refused) (inT__law_is_floor_refused : (Pt__law_is_floor_refused, ql__law_is_floor_refused) ∈ T) (one__law_is_floor_refused : ∀ p ∈ T, p.1 = Pt__law_is_floor_refused → p.2 = ql__law_is_floor_refused) (bt : Bt mg) (ct : Ct K mg) (hm : mg "_law_is_floor_refused" = some (.ref f)) (F : FunC K "_law_is_floor_refused" (top 73) f (.ref c__law_is_floor_refused)) (O__law_same : OkG P w K mg base T "_law_same" (top 64) 1 ["_law_told", "_law_due"] sp__law_same) (O__law_refused : ∀ k, OkL P w K mg base T "_law_refused" (top 70) k ["_law_call", "e", "_law_is_other"] "_law_call" sp__law_refused) (O_is_golden : OkD P w K mg base T "is_golden" (top 31) 3 ["thing"] sp_is_golden) (O_plus : OkD P w K mg base T "plus" (top 33) 4 ["one", "other"] sp_plus) (O_quotient : OkD P w K mg base T "quotient" (top 36) 4 ["one", "other"] sp_quotient) (O_sign : OkD P w K mg base T "sign" (top 37) 4 ["number"] sp_sign) (O_is_below : OkD P w K mg base T "is_below" (top 38) 4 ["one", "other"] sp_is_below) (O_Floor__eq : EqOf P w K mg base T 1 knownO "Floor" sp_Floor__eq) : OkG P w K mg base T "_law_is_floor_refused" (top 73) 7 ["_law_plane"] sp__law_is_floor_refused := by
  refine okGc (g := g__law_is_floor_refused) hm F sc__law_is_floor_refused len__law_is_floor_refused (fun A outer s H E W F R hG hr hE hp hx => ?_) law__law_is_floor_refused
  have nd := sc__law_is_floor_refused.nd
  have hu65 := hu65_of hr
  exact (sds_cons (sd_setL (i := 1) nd rfl (Or.inl rfl) (fd_lst (ad_cons (ed_lam (B := ⟨⟨W, T⟩, F, H⟩) (fl := fun R => (gCall sp_plus W R (gCons (gVar 0) (gCons (gTup (gCons (gC (.int 1)) (gCons (gC (.int 0)) (gCons (gC (.int 1)) gNil)))) gNil)))) (k := 4) (O__law_refused _) bp__law_refused tb__law_is_floor_refused rfl inT__law_is_floor_refused one__law_is_floor_refused (hr.mono (by decide)) (LamX.lamS_by (sc := defScope (top 73)) (by decide +kernel)) (fun A outer s H E f c' F' H' R hr hE hx => (ed_o (B := ⟨⟨W, T⟩, F', H'⟩) (k := 4) O_plus bp_plus (hr.mono (by decide)) hx hE (ad_cons (ed_var 0 (pv 0)) (ad_cons (ed_tup (ad_cons ed_int (ad_cons ed_int (ad_cons ed_int ad_nil)))) ad_nil)))) rfl vis__law_refused rfl (fun _ _ _ _ _ => rfl)) ad_nil)))
      (sds_cons (sd_appE (pv 1) (ed_lam (B := ⟨⟨W, T⟩, F, H⟩) (fl := fun R => (gCall sp_quotient W R (gCons (gTup (gCons (gC (.int 0)) (gCons (gC (.int 0)) (gCons (gC (.int 1)) gNil)))) (gCons (gVar 0) gNil)))) (k := 4) (O__law_refused _) bp__law_refused tb__law_is_floor_refused rfl inT__law_is_floor_refused one__law_is_floor_refused (hr.mono (by decide)) (LamX.lamS_by (sc := defScope (top 73)) (by decide +kernel)) (fun A outer s H E f c' F' H' R hr hE hx => (ed_o (B := ⟨⟨W, T⟩, F', H'⟩) (k := 4) O_quotient bp_quotient (hr.mono (by decide)) hx hE (ad_cons (ed_tup (ad_cons ed_int (ad_cons ed_int (ad_cons ed_int ad_nil)))) (ad_cons (ed_var 0 (pv 0)) ad_nil)))) rfl vis__law_refused rfl (fun _ _ _ _ _ => rfl)))
      (sds_cons (sd_appE (pv 1) (ed_lam (B := ⟨⟨W, T⟩, F, H⟩) (fl := fun R => (gCall sp_sign W R (gCons (gVar 0) gNil))) (k := 4) (O__law_refused _) bp__law_refused tb__law_is_floor_refused rfl inT__law_is_floor_refused one__law_is_floor_refused (hr.mono (by decide)) (LamX.lamS_by (sc := defScope (top 73)) (by decide +kernel)) (fun A outer s H E f c' F' H' R hr hE hx => (ed_o (B := ⟨⟨W, T⟩, F', H'⟩) (k := 4) O_sign bp_sign (hr.mono (by decide)) hx hE (ad_cons (ed_var 0 (pv 0)) ad_nil))) rfl vis__law_refused rfl (fun _ _ _ _ _ => rfl)))
      (sds_cons (sd_appE (pv 1) (ed_lam (B := ⟨⟨W, T⟩, F, H⟩) (fl := fun R => (gCallK sp_is_below 0 2 [1, 0] W R gNil (gCons (gVar 0) (gCons (gTup (gCons (gC (.int 2)) (gCons (gC (.int 1)) (gCons (gC (.int 1)) gNil)))) gNil)))) (k := 4) (O__law_refused _) bp__law_refused tb__law_is_floor_refused rfl inT__law_is_floor_refused one__law_is_floor_refused (hr.mono (by decide)) (LamX.lamS_by (sc := defScope (top 73)) (by decide +kernel)) (fun A outer s H E f c' F' H' R hr hE hx => (ed_ok0 (B := ⟨⟨W, T⟩, F', H'⟩) (k := 4) O_is_below (by decide) kb_is_below_0 (hr.mono (by decide)) hx hE (kd_cons (ed_var 0 (pv 0)) (kd_cons (ed_tup (ad_cons ed_int (ad_cons ed_int (ad_cons ed_int ad_nil)))) kd_nil)))) rfl vis__law_refused rfl (fun _ _ _ _ _ => rfl)))
      (sds_cons (sd_fz 1 (sd_for hp rfl (pid_data (ed_var 1 (pv 1))) (gd_name (pg_name (i := 2) nd rfl (Or.inl rfl))) (sds_one (sd_if (wd_or (td_cmp o_is (ed_var 2 (pv 2)).toB ed_non.toB (nomark _)) (wd_or (td_cmp (o_ne hr.units) (ed_ix (ed_var 2 (pv 2)).toB ed_int.toB).toB ed_str.toB (nomark _)) (wd_or (td_not (td_val (ed_isO (n := "Floor") ct.ob (by decide) (by rfl) bt.b_isinstance (by rfl) (by decide) (ed_ix (ed_var 2 (pv 2)).toB ed_int.toB).toB).toB)) (wd_or1 (td_not (td_cmpE (o_eqX (sps := eqsO) ct.ob (fun n sp h => eqs_of O_Floor__eq h) (hr.mono (by decide)) hr.units passL) (ed_ix (ed_var 2 (pv 2)).toB ed_int.toB) (ed_var 0 (pv 0)) (nomark _))))))).t (sds_one (sd_ret ed_bl)) sds_nil))))
      (sds_one (sd_ret (ed_g (B := ⟨⟨W, T⟩, F, H⟩) (k := 1) O__law_same bp__law_same hG (hr.mono (by decide)) hx hE (ad_cons (ed_tup (ad_cons (ed_o (B := ⟨⟨W, T⟩, F, H⟩) (k := 3) O_is_golden bp_is_golden (hr.mono (by decide)) hx hE (ad_cons (ed_var 0 (pv 0)) ad_nil)) (ad_cons (ed_o (B := ⟨⟨W, T⟩, F, H⟩) (k := 3) O_is_golden bp_is_golden (hr.mono (by decide)) hx hE (ad_cons (ed_tup (ad_cons (ed_var 0 (pv 0)) (ad_cons ed_int (ad_cons ed_int ad_nil)))) ad_nil)) ad_nil))) (ad_cons (ed_tup (ad_cons ed_bl (ad_cons ed_bl ad_nil))) ad_nil))))))))))
theorem ok__law_is_great_right {f : Addr} {c__law_is_great_right Pt__law_is_great_right : Addr} (tb__law_is_great_right : LamX.TabB base mg c__law_is_great_right Pt__law_is_great_right) (inT__law_is_great_right : (Pt__law_is_great_right, ql__law_is_great_right) ∈ T) (one__law_is_great_right : ∀ p ∈ T, p.1 = Pt__law_is_great_right → p.2 = ql__law_is_great_right) (bt : Bt mg) (ct : Ct K mg) (hm : mg "_law_is_great_right" = some (.ref f)) (F : FunC K "_law_is_great_right" (top 74) f (.ref c__law_is_great_right)) (O_times : OkD P w K mg base T "times" (top 35) 4 ["one", "other"] sp_times) (O__law_refused : ∀ k, OkL P w K mg base T "_law_refused" (top 70) k ["_law_call", "e", "_law_is_other"] "_law_call" sp__law_refused) (O_is_golden : OkD P w K mg base T "is_golden" (top 31) 3 ["thing"] sp_is_golden) (O__law_draw : OkD P w K mg base T "_law_draw" (top 61) 1 ["_law_deck_here", "_law_many"] spDraw) (O_plus : OkD P w K mg base T "plus" (top 33) 4 ["one", "other"] sp_plus) : OkG P w K mg base T "_law_is_great_right" (top 74) 7 ["_law_deck_here"] sp__law_is_great_right := by
  refine okGc (g := g__law_is_great_right) hm F sc__law_is_great_right len__law_is_great_right (fun A outer s H E W F R hG hr hE hp hx => ?_) law__law_is_great_right
  have nd := sc__law_is_great_right.nd
  have hu65 := hu65_of hr
  exact (sds_cons (sd_set (i := 1) nd rfl (Or.inl rfl) (ed_callTy (c_intB ct.dig) (by rfl) bt.b_int nbInt (abd_cons (ed_bin o_repS ed_str.toB (ed_bin o_sub ed_int.toB (ed_o (B := ⟨⟨W, T⟩, F, H⟩) (k := 1) O__law_draw bp__law_draw (hr.mono (by decide)) hx hE (ad_cons (ed_var 0 (pv 0)) (ad_cons ed_int ad_nil))).toB).toB).toB abd_nil)))
      (sds_cons (sd_set (i := 2) nd rfl (Or.inr rfl) (ed_tup (ad_cons (ed_var 1 (pv 1)) (ad_cons (ed_bin o_mul (ed_var 1 (pv 1)).toB (ed_bin o_sub ed_int.toB (ed_o (B := ⟨⟨W, T⟩, F, H⟩) (k := 1) O__law_draw bp__law_draw (hr.mono (by decide)) hx hE (ad_cons (ed_var 0 (pv 0)) (ad_cons ed_int ad_nil))).toB).toB) (ad_cons ed_int ad_nil)))))
      (sds_cons (sd_for hp rfl (pid_rng1 (by rfl) bt.b_range (ad_cons ed_int ad_nil)) (gd_name (pg_name (i := 3) nd rfl (Or.inl rfl))) (sds_one (sd_set (i := 2) nd rfl (Or.inr rfl) (ed_o (B := ⟨⟨W, T⟩, F, H⟩) (k := 4) O_times bp_times (hr.mono (by decide)) hx hE (ad_cons (ed_var 2 (pv 2)) (ad_cons (ed_var 2 (pv 2)) ad_nil))))))
      (sds_cons (sd_if (wd_or (td_cmp o_isNot (ed_o (B := ⟨⟨W, T⟩, F, H⟩) (k := 3) O_is_golden bp_is_golden (hr.mono (by decide)) hx hE (ad_cons (ed_var 2 (pv 2)) ad_nil)).toB ed_bl.toB (nomark _)) (wd_or1 (td_cmp o_isNot (ED.toB (ed_lam (B := ⟨⟨W, T⟩, F, H⟩) (fl := fun R => (gCall sp_plus W R (gCons (gVar 2) (gCons (gTup (gCons (gC (.int 1)) (gCons (gC (.int 0)) (gCons (gC (.int 1)) gNil)))) gNil)))) (k := 4) (O__law_refused _) bp__law_refused tb__law_is_great_right rfl inT__law_is_great_right one__law_is_great_right (hr.mono (by decide)) (LamX.lamS_by (sc := defScope (top 74)) (by decide +kernel)) (fun A outer s H E f c' F' H' R hr hE hx => (ed_o (B := ⟨⟨W, T⟩, F', H'⟩) (k := 4) O_plus bp_plus (hr.mono (by decide)) hx hE (ad_cons (ed_var 2 (pv 2)) (ad_cons (ed_tup (ad_cons ed_int (ad_cons ed_int (ad_cons ed_int ad_nil)))) ad_nil)))) rfl vis__law_refused rfl (fun _ _ _ _ _ => rfl))) ed_non.toB (nomark _)))).t (sds_one (sd_ret ed_bl)) sds_nil)
      (sds_cons (sd_for hp rfl (pid_data (ed_tup (ad_cons (ed_sl (ed_var 2 (pv 2)).toB od_none (od_some ed_int)) (ad_cons (ed_bin o_add (ed_sl (ed_var 2 (pv 2)).toB od_none (od_some ed_int)).toB (ed_tup (ad_cons ed_int ad_nil)).toB) (ad_cons (ed_bin o_add (ed_sl (ed_var 2 (pv 2)).toB od_none (od_some ed_int)).toB (ed_tup (ad_cons (ed_un o_neg ed_int.toB) ad_nil)).toB) (ad_cons (ed_bin o_add (ed_var 2 (pv 2)).toB (ed_tup (ad_cons ed_int ad_nil)).toB) (ad_cons (ed_tup (ad_cons (ed_ix (ed_var 2 (pv 2)).toB ed_int.toB) (ad_cons ed_non (ad_cons ed_int ad_nil)))) ad_nil))))))) (gd_name (pg_name (i := 4) nd rfl (Or.inr rfl))) (sds_cons (sd_if (td_cmp o_isNot (ed_o (B := ⟨⟨W, T⟩, F, H⟩) (k := 3) O_is_golden bp_is_golden (hr.mono (by decide)) hx hE (ad_cons (ed_var 4 (pv 4)) ad_nil)).toB ed_bl.toB (nomark _)) (sds_one (sd_ret ed_bl)) sds_nil)
      (sds_cons (sd_set (i := 5) nd rfl (Or.inl rfl) (ed_lam (B := ⟨⟨W, T⟩, F, H⟩) (fl := fun R => (gCall sp_plus W R (gCons (gVar 4) (gCons (gTup (gCons (gC (.int 1)) (gCons (gC (.int 0)) (gCons (gC (.int 1)) gNil)))) gNil)))) (k := 4) (O__law_refused _) bp__law_refused tb__law_is_great_right rfl inT__law_is_great_right one__law_is_great_right (hr.mono (by decide)) (LamX.lamS_by (sc := defScope (top 74)) (by decide +kernel)) (fun A outer s H E f c' F' H' R hr hE hx => (ed_o (B := ⟨⟨W, T⟩, F', H'⟩) (k := 4) O_plus bp_plus (hr.mono (by decide)) hx hE (ad_cons (ed_var 4 (pv 4)) (ad_cons (ed_tup (ad_cons ed_int (ad_cons ed_int (ad_cons ed_int ad_nil)))) ad_nil)))) rfl vis__law_refused rfl (fun _ _ _ _ _ => rfl)))
      (sds_cons (sd_set (i := 6) nd rfl (Or.inl rfl) (ed_lam (B := ⟨⟨W, T⟩, F, H⟩) (fl := fun R => (gCallK sp_times 0 2 [1, 0] W R gNil (gCons (gVar 4) (gCons (gVar 2) gNil)))) (k := 4) (O__law_refused _) bp__law_refused tb__law_is_great_right rfl inT__law_is_great_right one__law_is_great_right (hr.mono (by decide)) (LamX.lamS_by (sc := defScope (top 74)) (by decide +kernel)) (fun A outer s H E f c' F' H' R hr hE hx => (ed_ok0 (B := ⟨⟨W, T⟩, F', H'⟩) (k := 4) O_times (by decide) kb_times_0 (hr.mono (by decide)) hx hE (kd_cons (ed_var 4 (pv 4)) (kd_cons (ed_var 2 (pv 2)) kd_nil)))) rfl vis__law_refused rfl (fun _ _ _ _ _ => rfl)))
      (sds_one (sd_if (wd_or (td_cmp (o_ne hr.units) (ed_var 5 (pv 5)).toB (ed_tup (ad_cons ed_str (ad_cons (ed_var 4 (pv 4)) ad_nil))).toB (nomark _)) (wd_or1 (td_cmp (o_ne hr.units) (ed_var 6 (pv 6)).toB (ed_tup (ad_cons ed_str (ad_cons (ed_var 4 (pv 4)) ad_nil))).toB (nomark _)))).t (sds_one (sd_ret ed_bl)) sds_nil))))))
      (sds_one (sd_ret ed_bl)))))))
theorem ok__law_one_right {f : Addr} {c__law_one_right Pt__law_one_right : Addr} (tb__law_one_right : LamX.TabB base mg c__law_one_right Pt__law_one_right) (inT__law_one_right : (Pt__law_one_right, ql__law_one_right) ∈ T) (one__law_one_right : ∀ p ∈ T, p.1 = Pt__law_one_right → p.2 = ql__law_one_right) (bt : Bt mg) (ct : Ct K mg) (hm : mg "_law_one_right" = some (.ref f)) (F : FunC K "_law_one_right" (top 72) f (.ref c__law_one_right)) (O__law_is_golden : OkD P w K mg base T "_law_is_golden" (top 68) 1 ["_law_thing"] sp__law_is_golden) (O__law_refused : ∀ k, OkL P w K mg base T "_law_refused" (top 70) k ["_law_call", "e", "_law_is_other"] "_law_call" sp__law_refused) (O__law_same : OkG P w K mg base T "_law_same" (top 64) 1 ["_law_told", "_law_due"] sp__law_same) (O_reduced : OkD P w K mg base T "reduced" (top 32) 4 ["number"] sp_reduced) (O_sign : OkD P w K mg base T "sign" (top 37) 4 ["number"] sp_sign) (O_integer_below : OkD P w K mg base T "integer_below" (top 40) 4 ["number"] sp_integer_below) (O_integer_above : OkD P w K mg base T "integer_above" (top 41) 4 ["number"] sp_integer_above) (O_is_whole : OkD P w K mg base T "is_whole" (top 42) 4 ["number"] sp_is_whole) (O_conjugate : OkD P w K mg base T "conjugate" (top 43) 4 ["number"] sp_conjugate) (O_number_text : OkD P w K mg base T "number_text" (top 45) 5 ["number"] sp_number_text) (O_is_golden : OkD P w K mg base T "is_golden" (top 31) 3 ["thing"] sp_is_golden) : OkG P w K mg base T "_law_one_right" (top 72) 8 ["_law_p"] sp__law_one_right := by
  refine okGc (g := g__law_one_right) hm F sc__law_one_right len__law_one_right (fun A outer s H E W F R hG hr hE hp hx => ?_) law__law_one_right
  have nd := sc__law_one_right.nd
  have hu65 := hu65_of hr
  exact (sds_cons (sd_set (i := 1) nd rfl (Or.inl rfl) (ed_if (td_val (ed_o (B := ⟨⟨W, T⟩, F, H⟩) (k := 1) O__law_is_golden bp__law_is_golden (hr.mono (by decide)) hx hE (ad_cons (ed_var 0 (pv 0)) ad_nil)).toB) ed_non (ed_tup (ad_cons ed_str (ad_cons (ed_var 0 (pv 0)) ad_nil)))))
      (sds_cons (sd_setL (i := 2) nd rfl (Or.inl rfl) (fd_lst (ad_cons (ed_lam (B := ⟨⟨W, T⟩, F, H⟩) (fl := fun R => (gCall sp_reduced W R (gCons (gVar 0) gNil))) (k := 5) (O__law_refused _) bp__law_refused tb__law_one_right rfl inT__law_one_right one__law_one_right (hr.mono (by decide)) (LamX.lamS_by (sc := defScope (top 72)) (by decide +kernel)) (fun A outer s H E f c' F' H' R hr hE hx => (ed_o (B := ⟨⟨W, T⟩, F', H'⟩) (k := 4) O_reduced bp_reduced (hr.mono (by decide)) hx hE (ad_cons (ed_var 0 (pv 0)) ad_nil))) rfl vis__law_refused rfl (fun _ _ _ _ _ => rfl)) ad_nil)))
      (sds_cons (sd_appE (pv 2) (ed_lam (B := ⟨⟨W, T⟩, F, H⟩) (fl := fun R => (gCall sp_sign W R (gCons (gVar 0) gNil))) (k := 5) (O__law_refused _) bp__law_refused tb__law_one_right rfl inT__law_one_right one__law_one_right (hr.mono (by decide)) (LamX.lamS_by (sc := defScope (top 72)) (by decide +kernel)) (fun A outer s H E f c' F' H' R hr hE hx => (ed_o (B := ⟨⟨W, T⟩, F', H'⟩) (k := 4) O_sign bp_sign (hr.mono (by decide)) hx hE (ad_cons (ed_var 0 (pv 0)) ad_nil))) rfl vis__law_refused rfl (fun _ _ _ _ _ => rfl)))
      (sds_cons (sd_appE (pv 2) (ed_lam (B := ⟨⟨W, T⟩, F, H⟩) (fl := fun R => (gCall sp_integer_below W R (gCons (gVar 0) gNil))) (k := 5) (O__law_refused _) bp__law_refused tb__law_one_right rfl inT__law_one_right one__law_one_right (hr.mono (by decide)) (LamX.lamS_by (sc := defScope (top 72)) (by decide +kernel)) (fun A outer s H E f c' F' H' R hr hE hx => (ed_o (B := ⟨⟨W, T⟩, F', H'⟩) (k := 4) O_integer_below bp_integer_below (hr.mono (by decide)) hx hE (ad_cons (ed_var 0 (pv 0)) ad_nil))) rfl vis__law_refused rfl (fun _ _ _ _ _ => rfl)))
      (sds_cons (sd_appE (pv 2) (ed_lam (B := ⟨⟨W, T⟩, F, H⟩) (fl := fun R => (gCall sp_integer_above W R (gCons (gVar 0) gNil))) (k := 5) (O__law_refused _) bp__law_refused tb__law_one_right rfl inT__law_one_right one__law_one_right (hr.mono (by decide)) (LamX.lamS_by (sc := defScope (top 72)) (by decide +kernel)) (fun A outer s H E f c' F' H' R hr hE hx => (ed_o (B := ⟨⟨W, T⟩, F', H'⟩) (k := 4) O_integer_above bp_integer_above (hr.mono (by decide)) hx hE (ad_cons (ed_var 0 (pv 0)) ad_nil))) rfl vis__law_refused rfl (fun _ _ _ _ _ => rfl)))
      (sds_cons (sd_appE (pv 2) (ed_lam (B := ⟨⟨W, T⟩, F, H⟩) (fl := fun R => (gCall sp_is_whole W R (gCons (gVar 0) gNil))) (k := 5) (O__law_refused _) bp__law_refused tb__law_one_right rfl inT__law_one_right one__law_one_right (hr.mono (by decide)) (LamX.lamS_by (sc := defScope (top 72)) (by decide +kernel)) (fun A outer s H E f c' F' H' R hr hE hx => (ed_o (B := ⟨⟨W, T⟩, F', H'⟩) (k := 4) O_is_whole bp_is_whole (hr.mono (by decide)) hx hE (ad_cons (ed_var 0 (pv 0)) ad_nil))) rfl vis__law_refused rfl (fun _ _ _ _ _ => rfl)))
      (sds_cons (sd_appE (pv 2) (ed_lam (B := ⟨⟨W, T⟩, F, H⟩) (fl := fun R => (gCall sp_conjugate W R (gCons (gVar 0) gNil))) (k := 5) (O__law_refused _) bp__law_refused tb__law_one_right rfl inT__law_one_right one__law_one_right (hr.mono (by decide)) (LamX.lamS_by (sc := defScope (top 72)) (by decide +kernel)) (fun A outer s H E f c' F' H' R hr hE hx => (ed_o (B := ⟨⟨W, T⟩, F', H'⟩) (k := 4) O_conjugate bp_conjugate (hr.mono (by decide)) hx hE (ad_cons (ed_var 0 (pv 0)) ad_nil))) rfl vis__law_refused rfl (fun _ _ _ _ _ => rfl)))
      (sds_cons (sd_appE (pv 2) (ed_lam (B := ⟨⟨W, T⟩, F, H⟩) (fl := fun R => (gCall sp_number_text W R (gCons (gVar 0) gNil))) (k := 5) (O__law_refused _) bp__law_refused tb__law_one_right rfl inT__law_one_right one__law_one_right (hr.mono (by decide)) (LamX.lamS_by (sc := defScope (top 72)) (by decide +kernel)) (fun A outer s H E f c' F' H' R hr hE hx => (ed_o (B := ⟨⟨W, T⟩, F', H'⟩) (k := 5) O_number_text bp_number_text (hr.mono (by decide)) hx hE (ad_cons (ed_var 0 (pv 0)) ad_nil))) rfl vis__law_refused rfl (fun _ _ _ _ _ => rfl)))
      (sds_cons (sd_appE (pv 2) (ed_lam (B := ⟨⟨W, T⟩, F, H⟩) (fl := fun R => (gCallK sp_reduced 0 1 [0] W R gNil (gCons (gVar 0) gNil))) (k := 5) (O__law_refused _) bp__law_refused tb__law_one_right rfl inT__law_one_right one__law_one_right (hr.mono (by decide)) (LamX.lamS_by (sc := defScope (top 72)) (by decide +kernel)) (fun A outer s H E f c' F' H' R hr hE hx => (ed_ok0 (B := ⟨⟨W, T⟩, F', H'⟩) (k := 4) O_reduced (by decide) kb_reduced_0 (hr.mono (by decide)) hx hE (kd_cons (ed_var 0 (pv 0)) kd_nil))) rfl vis__law_refused rfl (fun _ _ _ _ _ => rfl)))
      (sds_cons (sd_appE (pv 2) (ed_lam (B := ⟨⟨W, T⟩, F, H⟩) (fl := fun R => (gCallK sp_sign 0 1 [0] W R gNil (gCons (gVar 0) gNil))) (k := 5) (O__law_refused _) bp__law_refused tb__law_one_right rfl inT__law_one_right one__law_one_right (hr.mono (by decide)) (LamX.lamS_by (sc := defScope (top 72)) (by decide +kernel)) (fun A outer s H E f c' F' H' R hr hE hx => (ed_ok0 (B := ⟨⟨W, T⟩, F', H'⟩) (k := 4) O_sign (by decide) kb_sign_0 (hr.mono (by decide)) hx hE (kd_cons (ed_var 0 (pv 0)) kd_nil))) rfl vis__law_refused rfl (fun _ _ _ _ _ => rfl)))
      (sds_cons (sd_appE (pv 2) (ed_lam (B := ⟨⟨W, T⟩, F, H⟩) (fl := fun R => (gCallK sp_integer_below 0 1 [0] W R gNil (gCons (gVar 0) gNil))) (k := 5) (O__law_refused _) bp__law_refused tb__law_one_right rfl inT__law_one_right one__law_one_right (hr.mono (by decide)) (LamX.lamS_by (sc := defScope (top 72)) (by decide +kernel)) (fun A outer s H E f c' F' H' R hr hE hx => (ed_ok0 (B := ⟨⟨W, T⟩, F', H'⟩) (k := 4) O_integer_below (by decide) kb_integer_below_0 (hr.mono (by decide)) hx hE (kd_cons (ed_var 0 (pv 0)) kd_nil))) rfl vis__law_refused rfl (fun _ _ _ _ _ => rfl)))
      (sds_cons (sd_appE (pv 2) (ed_lam (B := ⟨⟨W, T⟩, F, H⟩) (fl := fun R => (gCallK sp_integer_above 0 1 [0] W R gNil (gCons (gVar 0) gNil))) (k := 5) (O__law_refused _) bp__law_refused tb__law_one_right rfl inT__law_one_right one__law_one_right (hr.mono (by decide)) (LamX.lamS_by (sc := defScope (top 72)) (by decide +kernel)) (fun A outer s H E f c' F' H' R hr hE hx => (ed_ok0 (B := ⟨⟨W, T⟩, F', H'⟩) (k := 4) O_integer_above (by decide) kb_integer_above_0 (hr.mono (by decide)) hx hE (kd_cons (ed_var 0 (pv 0)) kd_nil))) rfl vis__law_refused rfl (fun _ _ _ _ _ => rfl)))
      (sds_cons (sd_appE (pv 2) (ed_lam (B := ⟨⟨W, T⟩, F, H⟩) (fl := fun R => (gCallK sp_is_whole 0 1 [0] W R gNil (gCons (gVar 0) gNil))) (k := 5) (O__law_refused _) bp__law_refused tb__law_one_right rfl inT__law_one_right one__law_one_right (hr.mono (by decide)) (LamX.lamS_by (sc := defScope (top 72)) (by decide +kernel)) (fun A outer s H E f c' F' H' R hr hE hx => (ed_ok0 (B := ⟨⟨W, T⟩, F', H'⟩) (k := 4) O_is_whole (by decide) kb_is_whole_0 (hr.mono (by decide)) hx hE (kd_cons (ed_var 0 (pv 0)) kd_nil))) rfl vis__law_refused rfl (fun _ _ _ _ _ => rfl)))
      (sds_cons (sd_appE (pv 2) (ed_lam (B := ⟨⟨W, T⟩, F, H⟩) (fl := fun R => (gCallK sp_conjugate 0 1 [0] W R gNil (gCons (gVar 0) gNil))) (k := 5) (O__law_refused _) bp__law_refused tb__law_one_right rfl inT__law_one_right one__law_one_right (hr.mono (by decide)) (LamX.lamS_by (sc := defScope (top 72)) (by decide +kernel)) (fun A outer s H E f c' F' H' R hr hE hx => (ed_ok0 (B := ⟨⟨W, T⟩, F', H'⟩) (k := 4) O_conjugate (by decide) kb_conjugate_0 (hr.mono (by decide)) hx hE (kd_cons (ed_var 0 (pv 0)) kd_nil))) rfl vis__law_refused rfl (fun _ _ _ _ _ => rfl)))
      (sds_cons (sd_appE (pv 2) (ed_lam (B := ⟨⟨W, T⟩, F, H⟩) (fl := fun R => (gCallK sp_number_text 0 1 [0] W R gNil (gCons (gVar 0) gNil))) (k := 5) (O__law_refused _) bp__law_refused tb__law_one_right rfl inT__law_one_right one__law_one_right (hr.mono (by decide)) (LamX.lamS_by (sc := defScope (top 72)) (by decide +kernel)) (fun A outer s H E f c' F' H' R hr hE hx => (ed_ok0 (B := ⟨⟨W, T⟩, F', H'⟩) (k := 5) O_number_text (by decide) kb_number_text_0 (hr.mono (by decide)) hx hE (kd_cons (ed_var 0 (pv 0)) kd_nil))) rfl vis__law_refused rfl (fun _ _ _ _ _ => rfl)))
      (sds_one (sd_fz 2 (sd_ret (ed_and (ed_g (B := ⟨⟨W, T⟩, F, H⟩) (k := 1) O__law_same bp__law_same hG (hr.mono (by decide)) hx hE (ad_cons (ed_var 2 (pv 2)) (ad_cons (ed_bin o_mul (fd_lst (ad_cons (ed_var 1 (pv 1)) ad_nil)).toE.toB ed_int.toB) ad_nil))) (ed_one (ed_g (B := ⟨⟨W, T⟩, F, H⟩) (k := 1) O__law_same bp__law_same hG (hr.mono (by decide)) hx hE (ad_cons (ed_tup (ad_cons (ed_o (B := ⟨⟨W, T⟩, F, H⟩) (k := 3) O_is_golden bp_is_golden (hr.mono (by decide)) hx hE (ad_cons (ed_var 0 (pv 0)) ad_nil)) (ad_cons (ed_ok0 (B := ⟨⟨W, T⟩, F, H⟩) (k := 3) O_is_golden (by decide) kb_is_golden_0 (hr.mono (by decide)) hx hE (kd_cons (ed_var 0 (pv 0)) kd_nil)) ad_nil))) (ad_cons (ed_tup (ad_cons (ed_cmp o_is (ed_var 1 (pv 1)).toB ed_non.toB (nomark _)) (ad_cons (ed_cmp o_is (ed_var 1 (pv 1)).toB ed_non.toB (nomark _)) ad_nil))) ad_nil)))))))))))))))))))))))
theorem ok_law {f fk : Addr} {fd fdk : FuncData} (bt : Bt mg) (ct : Ct K mg) (hmk : mg "_law_deck" = some (.ref fk)) (Fk : Fun K "_law_deck" "_law_deck" (top 60) fk fdk) (F : Fun K "law" "law" (top 75) f fd) (O_power : OkD P w K mg base T "power" (top 44) 2 ["n"] sp_power) (O__law_is_floor_refused : OkG P w K mg base T "_law_is_floor_refused" (top 73) 7 ["_law_plane"] sp__law_is_floor_refused) (O__law_is_great_right : OkG P w K mg base T "_law_is_great_right" (top 74) 7 ["_law_deck_here"] sp__law_is_great_right) (O_Floor : OkM P w K mg base T "Floor" "Floor.__init__" (methS 56 0) 5 ["one", "other", "side"] [.tup [.int 0, .int 0, .int 0, .int 0, .int 0]] sp_Floor) (O__law_value : OkD P w K mg base T "_law_value" (top 69) 6 ["_law_deck_here"] sp__law_value) (O__law_draw : OkD P w K mg base T "_law_draw" (top 61) 1 ["_law_deck_here", "_law_many"] spDraw) (O__law_one_right : OkG P w K mg base T "_law_one_right" (top 72) 8 ["_law_p"] sp__law_one_right) (O__law_two_right : OkG P w K mg base T "_law_two_right" (top 71) 7 ["_law_p", "_law_q"] sp__law_two_right) (O__law_same : OkG P w K mg base T "_law_same" (top 64) 1 ["_law_told", "_law_due"] sp__law_same) (O__law_integer : OkD P w K mg base T "_law_integer" (top 63) 2 ["_law_deck_here", "_law_pieces"] sp__law_integer) : FnG P w K mg base 9 f fd ["_law_script"] (spLaw K T) := by
  refine okLaw (g := fun W => g_law W fun _ => False) F sc_law (by decide) rfl (fun cdv A outer s H E hG hr hp hx => ⟨ps_set (i := 1) sc_law.nd rfl (Or.inl rfl) (pe_call (ok__law_deck bt Fk) (hr.mono (by decide)) rfl hmk Fk.kp (Fk.binds bp__law_deck) .nil hx (pa_cons (pv 0) pa_nil)), fun p H0 => ?_⟩) law_law
  have nd := sc_law.nd
  have W : WD := some p
  have hE : FinE ⟨some p, T⟩ ⟨K, mg⟩ hp0 H0 (fun _ => False) E := fun er z => z.elim
  have hu65 := hu65_of hr
  exact (sds_cons (sd_for hp rfl (pid_rng1 (by rfl) bt.b_range (ad_cons ed_int ad_nil)) (gd_name (pg_name (i := 2) nd rfl (Or.inl rfl))) (sds_cons (sd_par2 (i := 4) (j := 5) rfl nd rfl rfl (by decide) rfl rfl (ad_cons (ed_o (B := ⟨⟨some p, T⟩, hp0, H0⟩) (k := 6) O__law_value bp__law_value (hr.mono (by decide)) hx hE (ad_cons (ed_var 1 (pv 1)) ad_nil)) (ad_cons (ed_o (B := ⟨⟨some p, T⟩, hp0, H0⟩) (k := 6) O__law_value bp__law_value (hr.mono (by decide)) hx hE (ad_cons (ed_var 1 (pv 1)) ad_nil)) ad_nil)) (by rfl))
      (sds_cons (sd_if (td_cmp (o_eq hr.units) (ed_o (B := ⟨⟨some p, T⟩, hp0, H0⟩) (k := 1) O__law_draw bp__law_draw (hr.mono (by decide)) hx hE (ad_cons (ed_var 1 (pv 1)) (ad_cons ed_int ad_nil))).toB ed_int.toB (nomark _)) (sds_one (sd_set (i := 5) nd rfl (Or.inl rfl) (ed_var 4 (pv 4)))) sds_nil)
      (sds_cons (sd_set (i := 6) nd rfl (Or.inl rfl) (ed_callB (c_reprB ct.dig hG hu65) (by rfl) bt.b_repr nbRepr (abd_cons (ed_tup (ad_cons (ed_var 4 (pv 4)) (ad_cons (ed_var 5 (pv 5)) ad_nil))).toB abd_nil)))
      (sds_one (sd_if (wd_or (td_not (td_val (ed_g (B := ⟨⟨some p, T⟩, hp0, H0⟩) (k := 7) O__law_two_right bp__law_two_right hG (hr.mono (by decide)) hx hE (ad_cons (ed_var 4 (pv 4)) (ad_cons (ed_var 5 (pv 5)) ad_nil))).toB)) (wd_or (td_not (td_val (ed_g (B := ⟨⟨some p, T⟩, hp0, H0⟩) (k := 8) O__law_one_right bp__law_one_right hG (hr.mono (by decide)) hx hE (ad_cons (ed_var 4 (pv 4)) ad_nil)).toB)) (wd_or1 (td_not (td_val (ed_g (B := ⟨⟨some p, T⟩, hp0, H0⟩) (k := 1) O__law_same bp__law_same hG (hr.mono (by decide)) hx hE (ad_cons (ed_callB (c_reprB ct.dig hG hu65) (by rfl) bt.b_repr nbRepr (abd_cons (ed_tup (ad_cons (ed_var 4 (pv 4)) (ad_cons (ed_var 5 (pv 5)) ad_nil))).toB abd_nil)) (ad_cons (ed_var 6 (pv 6)) ad_nil))).toB))))).t (sds_one (sd_ret ed_bl)) sds_nil))))))
      (sds_cons (sd_set (i := 3) nd rfl (Or.inl rfl) (ed_o (B := ⟨⟨some p, T⟩, hp0, H0⟩) (k := 2) O_power bp_power (hr.mono (by decide)) hx hE (ad_cons (ed_bin o_sub ed_int.toB (ed_o (B := ⟨⟨some p, T⟩, hp0, H0⟩) (k := 1) O__law_draw bp__law_draw (hr.mono (by decide)) hx hE (ad_cons (ed_var 1 (pv 1)) (ad_cons ed_int ad_nil))).toB) ad_nil)))
      (sds_cons (sd_if (wd_or (td_not (td_val (ed_g (B := ⟨⟨some p, T⟩, hp0, H0⟩) (k := 8) O__law_one_right bp__law_one_right hG (hr.mono (by decide)) hx hE (ad_cons (ed_var 3 (pv 3)) ad_nil)).toB)) (wd_or (td_not (td_val (ed_g (B := ⟨⟨some p, T⟩, hp0, H0⟩) (k := 8) O__law_one_right bp__law_one_right hG (hr.mono (by decide)) hx hE (ad_cons (ed_bin o_add (ed_sl (ed_var 3 (pv 3)).toB (od_some ed_int) od_none).toB (ed_tup (ad_cons (ed_un o_neg (ed_ix (ed_var 3 (pv 3)).toB ed_int.toB).toB) ad_nil)).toB) ad_nil)).toB)) (wd_or1 (td_not (td_val (ed_g (B := ⟨⟨some p, T⟩, hp0, H0⟩) (k := 8) O__law_one_right bp__law_one_right hG (hr.mono (by decide)) hx hE (ad_cons (ed_sl (ed_var 3 (pv 3)).toB od_none (od_some ed_int)) ad_nil)).toB))))).t (sds_one (sd_ret ed_bl)) sds_nil)
      (sds_cons (sd_if (td_not (td_val (ed_g (B := ⟨⟨some p, T⟩, hp0, H0⟩) (k := 7) O__law_is_great_right bp__law_is_great_right hG (hr.mono (by decide)) hx hE (ad_cons (ed_var 1 (pv 1)) ad_nil)).toB)) (sds_one (sd_ret ed_bl)) sds_nil)
      (sds_one (sd_ret (ed_g (B := ⟨⟨some p, T⟩, hp0, H0⟩) (k := 7) O__law_is_floor_refused bp__law_is_floor_refused hG (hr.mono (by decide)) hx hE (ad_cons (ed_make (B := ⟨⟨some p, T⟩, hp0, H0⟩) (k := 5) O_Floor rfl bm_Floor_0 (hr.mono (by decide)) hx hE (ad_cons (ed_tup (ad_cons (ed_bin o_add (ed_bin o_mul ed_int.toB (ed_o (B := ⟨⟨some p, T⟩, hp0, H0⟩) (k := 2) O__law_integer bp__law_integer (hr.mono (by decide)) hx hE (ad_cons (ed_var 1 (pv 1)) (ad_cons ed_int ad_nil))).toB).toB ed_int.toB) (ad_cons ed_int (ad_cons ed_int ad_nil)))) (ad_cons (ed_tup (ad_cons ed_int (ad_cons (ed_bin o_mul ed_int.toB (ed_o (B := ⟨⟨some p, T⟩, hp0, H0⟩) (k := 2) O__law_integer bp__law_integer (hr.mono (by decide)) hx hE (ad_cons (ed_var 1 (pv 1)) (ad_cons ed_int ad_nil))).toB) (ad_cons ed_int ad_nil)))) ad_nil)) kd_nil) ad_nil))))))))
end
theorem all_ok {l : PySem.W.OpenLaw} {w : World} {K : PySem.W.Frag} {h : Heap} {mg : Str → Option Value} {fa : Addr} (X : K.In h) (G : h.Ns mainGlobals mg) (hfa : mg "law" = some (.ref fa))
    {f11 f12 f13 f14 f15 f16 f17 f18 f19 f20 f21 f22 f23 f24 f25 f26 f30 f31 f32 f33 f34 f35 f36 f37 f38 f39 f40 f41 f42 f43 f44 f45 f52 f53 f54 f55 f60 f61 f62 f63 f64 f65 f66 f67 f68 f69 f70 f71 f72 f73 f74 f75 C_BadCount C_BadNumber C_BadPower C_BadSide C_BadText C_DividedByZero C_FloorError fI_BadNumber fI_BadPower fI_BadSide cc71 Pt71 cc72 Pt72 cc73 Pt73 cc74 Pt74 : Addr} {od11 an11 od12 an12 od13 an13 od14 an14 od15 an15 od16 an16 od17 an17 od18 an18 od19 an19 od20 an20 od21 an21 od22 an22 od23 an23 od24 an24 od25 an25 od26 an26 od30 an30 od31 an31 od32 an32 od33 an33 od34 an34 od35 an35 od36 an36 od37 an37 od38 an38 od39 an39 od40 an40 od41 an41 od42 an42 od43 an43 od44 an44 od45 an45 od52 an52 od53 an53 od54 an54 od55 an55 od60 an60 od61 an61 od62 an62 od63 an63 od64 an64 od65 an65 od66 an66 od67 an67 od68 an68 od69 an69 od70 an70 od71 an71 od72 an72 od73 an73 od74 an74 od75 an75 od_BadNumber an_BadNumber od_BadPower an_BadPower od_BadSide an_BadSide : Option Addr} {sl11 sl12 sl13 sl14 sl15 sl16 sl17 sl18 sl19 sl20 sl21 sl22 sl23 sl24 sl25 sl26 sl30 sl31 sl32 sl33 sl34 sl35 sl36 sl37 sl38 sl39 sl40 sl41 sl42 sl43 sl44 sl45 sl52 sl53 sl54 sl55 sl60 sl61 sl62 sl63 sl64 sl65 sl66 sl67 sl68 sl69 sl70 sl71 sl72 sl73 sl74 sl75 sl_BadNumber sl_BadPower sl_BadSide ts71 ts72 ts73 ts74 : Array (Option Value)} {tv71 tv72 tv73 tv74 : Array Value} {td71 td72 td73 td74 : Option Addr} {tc71 tc72 tc73 tc74 : Value} {oc11 kV11 dc11 pm11 cd11 ct11 oc12 kV12 dc12 pm12 cd12 ct12 oc13 kV13 dc13 pm13 cd13 ct13 oc14 kV14 dc14 pm14 cd14 ct14 oc15 kV15 dc15 pm15 cd15 ct15 oc16 kV16 dc16 pm16 cd16 ct16 oc17 kV17 dc17 pm17 cd17 ct17 oc18 kV18 dc18 pm18 cd18 ct18 oc19 kV19 dc19 pm19 cd19 ct19 oc20 kV20 dc20 pm20 cd20 ct20 oc21 kV21 dc21 pm21 cd21 ct21 oc22 kV22 dc22 pm22 cd22 ct22 oc23 kV23 dc23 pm23 cd23 ct23 oc24 kV24 dc24 pm24 cd24 ct24 oc25 kV25 dc25 pm25 cd25 ct25 oc26 kV26 dc26 pm26 cd26 ct26 oc30 kV30 dc30 pm30 cd30 ct30 oc31 kV31 dc31 pm31 cd31 ct31 oc32 kV32 dc32 pm32 cd32 ct32 oc33 kV33 dc33 pm33 cd33 ct33 oc34 kV34 dc34 pm34 cd34 ct34 oc35 kV35 dc35 pm35 cd35 ct35 oc36 kV36 dc36 pm36 cd36 ct36 oc37 kV37 dc37 pm37 cd37 ct37 oc38 kV38 dc38 pm38 cd38 ct38 oc39 kV39 dc39 pm39 cd39 ct39 oc40 kV40 dc40 pm40 cd40 ct40 oc41 kV41 dc41 pm41 cd41 ct41 oc42 kV42 dc42 pm42 cd42 ct42 oc43 kV43 dc43 pm43 cd43 ct43 oc44 kV44 dc44 pm44 cd44 ct44 oc45 kV45 dc45 pm45 cd45 ct45 oc52 kV52 dc52 pm52 cd52 ct52 oc53 kV53 dc53 pm53 cd53 ct53 oc54 kV54 dc54 pm54 cd54 ct54 oc55 kV55 dc55 pm55 cd55 ct55 oc60 kV60 dc60 pm60 cd60 ct60 oc61 kV61 dc61 pm61 cd61 ct61 oc62 kV62 dc62 pm62 cd62 ct62 oc63 kV63 dc63 pm63 cd63 ct63 oc64 kV64 dc64 pm64 cd64 ct64 oc65 kV65 dc65 pm65 cd65 ct65 oc66 kV66 dc66 pm66 cd66 ct66 oc67 kV67 dc67 pm67 cd67 ct67 oc68 kV68 dc68 pm68 cd68 ct68 oc69 kV69 dc69 pm69 cd69 ct69 oc70 kV70 dc70 pm70 cd70 ct70 oc71 kV71 dc71 pm71  ct71 oc72 kV72 dc72 pm72  ct72 oc73 kV73 dc73 pm73  ct73 oc74 kV74 dc74 pm74  ct74 oc75 kV75 dc75 pm75 cd75 ct75 oc_BadNumber kV_BadNumber dc_BadNumber pm_BadNumber cd_BadNumber ct_BadNumber oc_BadPower kV_BadPower dc_BadPower pm_BadPower cd_BadPower ct_BadPower oc_BadSide kV_BadSide dc_BadSide pm_BadSide cd_BadSide ct_BadSide : Value}
    {Ty1 Ty7 Ty13 C_Floor fI_Floor DI_Floor Ty18 fE_Floor : Addr} {Dy1 Dy7 Dy13 DDI_Floor odI_Floor anI_Floor Dy18 odE_Floor anE_Floor : Option Addr} {Sy1 Sy7 Sy13 DSI_Floor slI_Floor Sy18 slE_Floor : Array (Option Value)} {DCI_Floor ocI_Floor kVI_Floor dcI_Floor pmI_Floor cdI_Floor ctI_Floor ocE_Floor kVE_Floor dcE_Floor pmE_Floor cdE_Floor ctE_Floor : Value} {y2 y3 y4 y5 y6 y8 y9 y10 y11 y12 y14 y15 y16 y17 y19 y20 y21 y22 y23 : Tok} {Ny1 Ny7 Ny13 DNI_Floor Ny18 : Nat}
    (a11 : PySem.W.nsIn K mainGlobals "is_integer" = some (some (.ref f11))) (l11 : K.lookup f11 = some ⟨oc11, od11, .func (PySem.W.fnOf "is_integer" "is_integer" (defArgs (top 11)) (defBody (top 11)) (defScope (top 11)) .none kV11 dc11 pm11 an11 cd11 ct11), sl11⟩) (c11 : PySem.W.codeIn K cd11 "is_integer" = true) (k11 : PySem.W.keepIn K (.ref f11) = true) (a12 : PySem.W.nsIn K mainGlobals "is_number" = some (some (.ref f12))) (l12 : K.lookup f12 = some ⟨oc12, od12, .func (PySem.W.fnOf "is_number" "is_number" (defArgs (top 12)) (defBody (top 12)) (defScope (top 12)) .none kV12 dc12 pm12 an12 cd12 ct12), sl12⟩) (c12 : PySem.W.codeIn K cd12 "is_number" = true) (k12 : PySem.W.keepIn K (.ref f12) = true) (a13 : PySem.W.nsIn K mainGlobals "normal" = some (some (.ref f13))) (l13 : K.lookup f13 = some ⟨oc13, od13, .func (PySem.W.fnOf "normal" "normal" (defArgs (top 13)) (defBody (top 13)) (defScope (top 13)) .none kV13 dc13 pm13 an13 cd13 ct13), sl13⟩) (c13 : PySem.W.codeIn K cd13 "normal" = true) (k13 : PySem.W.keepIn K (.ref f13) = true) (a14 : PySem.W.nsIn K mainGlobals "pair_sign" = some (some (.ref f14))) (l14 : K.lookup f14 = some ⟨oc14, od14, .func (PySem.W.fnOf "pair_sign" "pair_sign" (defArgs (top 14)) (defBody (top 14)) (defScope (top 14)) .none kV14 dc14 pm14 an14 cd14 ct14), sl14⟩) (c14 : PySem.W.codeIn K cd14 "pair_sign" = true) (k14 : PySem.W.keepIn K (.ref f14) = true) (a15 : PySem.W.nsIn K mainGlobals "sign_of" = some (some (.ref f15))) (l15 : K.lookup f15 = some ⟨oc15, od15, .func (PySem.W.fnOf "sign_of" "sign_of" (defArgs (top 15)) (defBody (top 15)) (defScope (top 15)) .none kV15 dc15 pm15 an15 cd15 ct15), sl15⟩) (c15 : PySem.W.codeIn K cd15 "sign_of" = true) (k15 : PySem.W.keepIn K (.ref f15) = true) (a16 : PySem.W.nsIn K mainGlobals "compared" = some (some (.ref f16))) (l16 : K.lookup f16 = some ⟨oc16, od16, .func (PySem.W.fnOf "compared" "compared" (defArgs (top 16)) (defBody (top 16)) (defScope (top 16)) .none kV16 dc16 pm16 an16 cd16 ct16), sl16⟩) (c16 : PySem.W.codeIn K cd16 "compared" = true) (k16 : PySem.W.keepIn K (.ref f16) = true) (a17 : PySem.W.nsIn K mainGlobals "negative" = some (some (.ref f17))) (l17 : K.lookup f17 = some ⟨oc17, od17, .func (PySem.W.fnOf "negative" "negative" (defArgs (top 17)) (defBody (top 17)) (defScope (top 17)) .none kV17 dc17 pm17 an17 cd17 ct17), sl17⟩) (c17 : PySem.W.codeIn K cd17 "negative" = true) (k17 : PySem.W.keepIn K (.ref f17) = true) (a18 : PySem.W.nsIn K mainGlobals "added" = some (some (.ref f18))) (l18 : K.lookup f18 = some ⟨oc18, od18, .func (PySem.W.fnOf "added" "added" (defArgs (top 18)) (defBody (top 18)) (defScope (top 18)) .none kV18 dc18 pm18 an18 cd18 ct18), sl18⟩) (c18 : PySem.W.codeIn K cd18 "added" = true) (k18 : PySem.W.keepIn K (.ref f18) = true) (a19 : PySem.W.nsIn K mainGlobals "taken" = some (some (.ref f19))) (l19 : K.lookup f19 = some ⟨oc19, od19, .func (PySem.W.fnOf "taken" "taken" (defArgs (top 19)) (defBody (top 19)) (defScope (top 19)) .none kV19 dc19 pm19 an19 cd19 ct19), sl19⟩) (c19 : PySem.W.codeIn K cd19 "taken" = true) (k19 : PySem.W.keepIn K (.ref f19) = true) (a20 : PySem.W.nsIn K mainGlobals "multiplied" = some (some (.ref f20))) (l20 : K.lookup f20 = some ⟨oc20, od20, .func (PySem.W.fnOf "multiplied" "multiplied" (defArgs (top 20)) (defBody (top 20)) (defScope (top 20)) .none kV20 dc20 pm20 an20 cd20 ct20), sl20⟩) (c20 : PySem.W.codeIn K cd20 "multiplied" = true) (k20 : PySem.W.keepIn K (.ref f20) = true) (a21 : PySem.W.nsIn K mainGlobals "times_g" = some (some (.ref f21))) (l21 : K.lookup f21 = some ⟨oc21, od21, .func (PySem.W.fnOf "times_g" "times_g" (defArgs (top 21)) (defBody (top 21)) (defScope (top 21)) .none kV21 dc21 pm21 an21 cd21 ct21), sl21⟩) (c21 : PySem.W.codeIn K cd21 "times_g" = true) (k21 : PySem.W.keepIn K (.ref f21) = true) (a22 : PySem.W.nsIn K mainGlobals "times_less" = some (some (.ref f22))) (l22 : K.lookup f22 = some ⟨oc22, od22, .func (PySem.W.fnOf "times_less" "times_less" (defArgs (top 22)) (defBody (top 22)) (defScope (top 22)) .none kV22 dc22 pm22 an22 cd22 ct22), sl22⟩) (c22 : PySem.W.codeIn K cd22 "times_less" = true) (k22 : PySem.W.keepIn K (.ref f22) = true) (a23 : PySem.W.nsIn K mainGlobals "divided" = some (some (.ref f23))) (l23 : K.lookup f23 = some ⟨oc23, od23, .func (PySem.W.fnOf "divided" "divided" (defArgs (top 23)) (defBody (top 23)) (defScope (top 23)) .none kV23 dc23 pm23 an23 cd23 ct23), sl23⟩) (c23 : PySem.W.codeIn K cd23 "divided" = true) (k23 : PySem.W.keepIn K (.ref f23) = true) (a24 : PySem.W.nsIn K mainGlobals "is_whole_number" = some (some (.ref f24))) (l24 : K.lookup f24 = some ⟨oc24, od24, .func (PySem.W.fnOf "is_whole_number" "is_whole_number" (defArgs (top 24)) (defBody (top 24)) (defScope (top 24)) .none kV24 dc24 pm24 an24 cd24 ct24), sl24⟩) (c24 : PySem.W.codeIn K cd24 "is_whole_number" = true) (k24 : PySem.W.keepIn K (.ref f24) = true) (a25 : PySem.W.nsIn K mainGlobals "floor_integer" = some (some (.ref f25))) (l25 : K.lookup f25 = some ⟨oc25, od25, .func (PySem.W.fnOf "floor_integer" "floor_integer" (defArgs (top 25)) (defBody (top 25)) (defScope (top 25)) .none kV25 dc25 pm25 an25 cd25 ct25), sl25⟩) (c25 : PySem.W.codeIn K cd25 "floor_integer" = true) (k25 : PySem.W.keepIn K (.ref f25) = true) (a26 : PySem.W.nsIn K mainGlobals "ceiling_integer" = some (some (.ref f26))) (l26 : K.lookup f26 = some ⟨oc26, od26, .func (PySem.W.fnOf "ceiling_integer" "ceiling_integer" (defArgs (top 26)) (defBody (top 26)) (defScope (top 26)) .none kV26 dc26 pm26 an26 cd26 ct26), sl26⟩) (c26 : PySem.W.codeIn K cd26 "ceiling_integer" = true) (k26 : PySem.W.keepIn K (.ref f26) = true) (a30 : PySem.W.nsIn K mainGlobals "need_numbers" = some (some (.ref f30))) (l30 : K.lookup f30 = some ⟨oc30, od30, .func (PySem.W.fnOf "need_numbers" "need_numbers" (defArgs (top 30)) (defBody (top 30)) (defScope (top 30)) .none kV30 dc30 pm30 an30 cd30 ct30), sl30⟩) (c30 : PySem.W.codeIn K cd30 "need_numbers" = true) (k30 : PySem.W.keepIn K (.ref f30) = true) (a31 : PySem.W.nsIn K mainGlobals "is_golden" = some (some (.ref f31))) (l31 : K.lookup f31 = some ⟨oc31, od31, .func (PySem.W.fnOf "is_golden" "is_golden" (defArgs (top 31)) (defBody (top 31)) (defScope (top 31)) .none kV31 dc31 pm31 an31 cd31 ct31), sl31⟩) (c31 : PySem.W.codeIn K cd31 "is_golden" = true) (k31 : PySem.W.keepIn K (.ref f31) = true) (a32 : PySem.W.nsIn K mainGlobals "reduced" = some (some (.ref f32))) (l32 : K.lookup f32 = some ⟨oc32, od32, .func (PySem.W.fnOf "reduced" "reduced" (defArgs (top 32)) (defBody (top 32)) (defScope (top 32)) .none kV32 dc32 pm32 an32 cd32 ct32), sl32⟩) (c32 : PySem.W.codeIn K cd32 "reduced" = true) (k32 : PySem.W.keepIn K (.ref f32) = true) (a33 : PySem.W.nsIn K mainGlobals "plus" = some (some (.ref f33))) (l33 : K.lookup f33 = some ⟨oc33, od33, .func (PySem.W.fnOf "plus" "plus" (defArgs (top 33)) (defBody (top 33)) (defScope (top 33)) .none kV33 dc33 pm33 an33 cd33 ct33), sl33⟩) (c33 : PySem.W.codeIn K cd33 "plus" = true) (k33 : PySem.W.keepIn K (.ref f33) = true) (a34 : PySem.W.nsIn K mainGlobals "minus" = some (some (.ref f34))) (l34 : K.lookup f34 = some ⟨oc34, od34, .func (PySem.W.fnOf "minus" "minus" (defArgs (top 34)) (defBody (top 34)) (defScope (top 34)) .none kV34 dc34 pm34 an34 cd34 ct34), sl34⟩) (c34 : PySem.W.codeIn K cd34 "minus" = true) (k34 : PySem.W.keepIn K (.ref f34) = true) (a35 : PySem.W.nsIn K mainGlobals "times" = some (some (.ref f35))) (l35 : K.lookup f35 = some ⟨oc35, od35, .func (PySem.W.fnOf "times" "times" (defArgs (top 35)) (defBody (top 35)) (defScope (top 35)) .none kV35 dc35 pm35 an35 cd35 ct35), sl35⟩) (c35 : PySem.W.codeIn K cd35 "times" = true) (k35 : PySem.W.keepIn K (.ref f35) = true) (a36 : PySem.W.nsIn K mainGlobals "quotient" = some (some (.ref f36))) (l36 : K.lookup f36 = some ⟨oc36, od36, .func (PySem.W.fnOf "quotient" "quotient" (defArgs (top 36)) (defBody (top 36)) (defScope (top 36)) .none kV36 dc36 pm36 an36 cd36 ct36), sl36⟩) (c36 : PySem.W.codeIn K cd36 "quotient" = true) (k36 : PySem.W.keepIn K (.ref f36) = true) (a37 : PySem.W.nsIn K mainGlobals "sign" = some (some (.ref f37))) (l37 : K.lookup f37 = some ⟨oc37, od37, .func (PySem.W.fnOf "sign" "sign" (defArgs (top 37)) (defBody (top 37)) (defScope (top 37)) .none kV37 dc37 pm37 an37 cd37 ct37), sl37⟩) (c37 : PySem.W.codeIn K cd37 "sign" = true) (k37 : PySem.W.keepIn K (.ref f37) = true) (a38 : PySem.W.nsIn K mainGlobals "is_below" = some (some (.ref f38))) (l38 : K.lookup f38 = some ⟨oc38, od38, .func (PySem.W.fnOf "is_below" "is_below" (defArgs (top 38)) (defBody (top 38)) (defScope (top 38)) .none kV38 dc38 pm38 an38 cd38 ct38), sl38⟩) (c38 : PySem.W.codeIn K cd38 "is_below" = true) (k38 : PySem.W.keepIn K (.ref f38) = true) (a39 : PySem.W.nsIn K mainGlobals "are_equal" = some (some (.ref f39))) (l39 : K.lookup f39 = some ⟨oc39, od39, .func (PySem.W.fnOf "are_equal" "are_equal" (defArgs (top 39)) (defBody (top 39)) (defScope (top 39)) .none kV39 dc39 pm39 an39 cd39 ct39), sl39⟩) (c39 : PySem.W.codeIn K cd39 "are_equal" = true) (k39 : PySem.W.keepIn K (.ref f39) = true) (a40 : PySem.W.nsIn K mainGlobals "integer_below" = some (some (.ref f40))) (l40 : K.lookup f40 = some ⟨oc40, od40, .func (PySem.W.fnOf "integer_below" "integer_below" (defArgs (top 40)) (defBody (top 40)) (defScope (top 40)) .none kV40 dc40 pm40 an40 cd40 ct40), sl40⟩) (c40 : PySem.W.codeIn K cd40 "integer_below" = true) (k40 : PySem.W.keepIn K (.ref f40) = true) (a41 : PySem.W.nsIn K mainGlobals "integer_above" = some (some (.ref f41))) (l41 : K.lookup f41 = some ⟨oc41, od41, .func (PySem.W.fnOf "integer_above" "integer_above" (defArgs (top 41)) (defBody (top 41)) (defScope (top 41)) .none kV41 dc41 pm41 an41 cd41 ct41), sl41⟩) (c41 : PySem.W.codeIn K cd41 "integer_above" = true) (k41 : PySem.W.keepIn K (.ref f41) = true) (a42 : PySem.W.nsIn K mainGlobals "is_whole" = some (some (.ref f42))) (l42 : K.lookup f42 = some ⟨oc42, od42, .func (PySem.W.fnOf "is_whole" "is_whole" (defArgs (top 42)) (defBody (top 42)) (defScope (top 42)) .none kV42 dc42 pm42 an42 cd42 ct42), sl42⟩) (c42 : PySem.W.codeIn K cd42 "is_whole" = true) (k42 : PySem.W.keepIn K (.ref f42) = true) (a43 : PySem.W.nsIn K mainGlobals "conjugate" = some (some (.ref f43))) (l43 : K.lookup f43 = some ⟨oc43, od43, .func (PySem.W.fnOf "conjugate" "conjugate" (defArgs (top 43)) (defBody (top 43)) (defScope (top 43)) .none kV43 dc43 pm43 an43 cd43 ct43), sl43⟩) (c43 : PySem.W.codeIn K cd43 "conjugate" = true) (k43 : PySem.W.keepIn K (.ref f43) = true) (a44 : PySem.W.nsIn K mainGlobals "power" = some (some (.ref f44))) (l44 : K.lookup f44 = some ⟨oc44, od44, .func (PySem.W.fnOf "power" "power" (defArgs (top 44)) (defBody (top 44)) (defScope (top 44)) .none kV44 dc44 pm44 an44 cd44 ct44), sl44⟩) (c44 : PySem.W.codeIn K cd44 "power" = true) (k44 : PySem.W.keepIn K (.ref f44) = true) (a45 : PySem.W.nsIn K mainGlobals "number_text" = some (some (.ref f45))) (l45 : K.lookup f45 = some ⟨oc45, od45, .func (PySem.W.fnOf "number_text" "number_text" (defArgs (top 45)) (defBody (top 45)) (defScope (top 45)) .none kV45 dc45 pm45 an45 cd45 ct45), sl45⟩) (c45 : PySem.W.codeIn K cd45 "number_text" = true) (k45 : PySem.W.keepIn K (.ref f45) = true) (a52 : PySem.W.nsIn K mainGlobals "keys_from" = some (some (.ref f52))) (l52 : K.lookup f52 = some ⟨oc52, od52, .func (PySem.W.fnOf "keys_from" "keys_from" (defArgs (top 52)) (defBody (top 52)) (defScope (top 52)) .none kV52 dc52 pm52 an52 cd52 ct52), sl52⟩) (c52 : PySem.W.codeIn K cd52 "keys_from" = true) (k52 : PySem.W.keepIn K (.ref f52) = true) (a53 : PySem.W.nsIn K mainGlobals "whole_directions" = some (some (.ref f53))) (l53 : K.lookup f53 = some ⟨oc53, od53, .func (PySem.W.fnOf "whole_directions" "whole_directions" (defArgs (top 53)) (defBody (top 53)) (defScope (top 53)) .none kV53 dc53 pm53 an53 cd53 ct53), sl53⟩) (c53 : PySem.W.codeIn K cd53 "whole_directions" = true) (k53 : PySem.W.keepIn K (.ref f53) = true) (a54 : PySem.W.nsIn K mainGlobals "sides_of" = some (some (.ref f54))) (l54 : K.lookup f54 = some ⟨oc54, od54, .func (PySem.W.fnOf "sides_of" "sides_of" (defArgs (top 54)) (defBody (top 54)) (defScope (top 54)) .none kV54 dc54 pm54 an54 cd54 ct54), sl54⟩) (c54 : PySem.W.codeIn K cd54 "sides_of" = true) (k54 : PySem.W.keepIn K (.ref f54) = true) (a55 : PySem.W.nsIn K mainGlobals "is_side" = some (some (.ref f55))) (l55 : K.lookup f55 = some ⟨oc55, od55, .func (PySem.W.fnOf "is_side" "is_side" (defArgs (top 55)) (defBody (top 55)) (defScope (top 55)) .none kV55 dc55 pm55 an55 cd55 ct55), sl55⟩) (c55 : PySem.W.codeIn K cd55 "is_side" = true) (k55 : PySem.W.keepIn K (.ref f55) = true) (a60 : PySem.W.nsIn K mainGlobals "_law_deck" = some (some (.ref f60))) (l60 : K.lookup f60 = some ⟨oc60, od60, .func (PySem.W.fnOf "_law_deck" "_law_deck" (defArgs (top 60)) (defBody (top 60)) (defScope (top 60)) .none kV60 dc60 pm60 an60 cd60 ct60), sl60⟩) (c60 : PySem.W.codeIn K cd60 "_law_deck" = true) (k60 : PySem.W.keepIn K (.ref f60) = true) (a61 : PySem.W.nsIn K mainGlobals "_law_draw" = some (some (.ref f61))) (l61 : K.lookup f61 = some ⟨oc61, od61, .func (PySem.W.fnOf "_law_draw" "_law_draw" (defArgs (top 61)) (defBody (top 61)) (defScope (top 61)) .none kV61 dc61 pm61 an61 cd61 ct61), sl61⟩) (c61 : PySem.W.codeIn K cd61 "_law_draw" = true) (k61 : PySem.W.keepIn K (.ref f61) = true) (a62 : PySem.W.nsIn K mainGlobals "_law_pick" = some (some (.ref f62))) (l62 : K.lookup f62 = some ⟨oc62, od62, .func (PySem.W.fnOf "_law_pick" "_law_pick" (defArgs (top 62)) (defBody (top 62)) (defScope (top 62)) .none kV62 dc62 pm62 an62 cd62 ct62), sl62⟩) (c62 : PySem.W.codeIn K cd62 "_law_pick" = true) (k62 : PySem.W.keepIn K (.ref f62) = true) (a63 : PySem.W.nsIn K mainGlobals "_law_integer" = some (some (.ref f63))) (l63 : K.lookup f63 = some ⟨oc63, od63, .func (PySem.W.fnOf "_law_integer" "_law_integer" (defArgs (top 63)) (defBody (top 63)) (defScope (top 63)) .none kV63 dc63 pm63 an63 cd63 ct63), sl63⟩) (c63 : PySem.W.codeIn K cd63 "_law_integer" = true) (k63 : PySem.W.keepIn K (.ref f63) = true) (a64 : PySem.W.nsIn K mainGlobals "_law_same" = some (some (.ref f64))) (l64 : K.lookup f64 = some ⟨oc64, od64, .func (PySem.W.fnOf "_law_same" "_law_same" (defArgs (top 64)) (defBody (top 64)) (defScope (top 64)) .none kV64 dc64 pm64 an64 cd64 ct64), sl64⟩) (c64 : PySem.W.codeIn K cd64 "_law_same" = true) (k64 : PySem.W.keepIn K (.ref f64) = true) (a65 : PySem.W.nsIn K mainGlobals "_law_golden" = some (some (.ref f65))) (l65 : K.lookup f65 = some ⟨oc65, od65, .func (PySem.W.fnOf "_law_golden" "_law_golden" (defArgs (top 65)) (defBody (top 65)) (defScope (top 65)) .none kV65 dc65 pm65 an65 cd65 ct65), sl65⟩) (c65 : PySem.W.codeIn K cd65 "_law_golden" = true) (k65 : PySem.W.keepIn K (.ref f65) = true) (a66 : PySem.W.nsIn K mainGlobals "_law_odd" = some (some (.ref f66))) (l66 : K.lookup f66 = some ⟨oc66, od66, .func (PySem.W.fnOf "_law_odd" "_law_odd" (defArgs (top 66)) (defBody (top 66)) (defScope (top 66)) .none kV66 dc66 pm66 an66 cd66 ct66), sl66⟩) (c66 : PySem.W.codeIn K cd66 "_law_odd" = true) (k66 : PySem.W.keepIn K (.ref f66) = true) (a67 : PySem.W.nsIn K mainGlobals "_law_bent" = some (some (.ref f67))) (l67 : K.lookup f67 = some ⟨oc67, od67, .func (PySem.W.fnOf "_law_bent" "_law_bent" (defArgs (top 67)) (defBody (top 67)) (defScope (top 67)) .none kV67 dc67 pm67 an67 cd67 ct67), sl67⟩) (c67 : PySem.W.codeIn K cd67 "_law_bent" = true) (k67 : PySem.W.keepIn K (.ref f67) = true) (a68 : PySem.W.nsIn K mainGlobals "_law_is_golden" = some (some (.ref f68))) (l68 : K.lookup f68 = some ⟨oc68, od68, .func (PySem.W.fnOf "_law_is_golden" "_law_is_golden" (defArgs (top 68)) (defBody (top 68)) (defScope (top 68)) .none kV68 dc68 pm68 an68 cd68 ct68), sl68⟩) (c68 : PySem.W.codeIn K cd68 "_law_is_golden" = true) (k68 : PySem.W.keepIn K (.ref f68) = true) (a69 : PySem.W.nsIn K mainGlobals "_law_value" = some (some (.ref f69))) (l69 : K.lookup f69 = some ⟨oc69, od69, .func (PySem.W.fnOf "_law_value" "_law_value" (defArgs (top 69)) (defBody (top 69)) (defScope (top 69)) .none kV69 dc69 pm69 an69 cd69 ct69), sl69⟩) (c69 : PySem.W.codeIn K cd69 "_law_value" = true) (k69 : PySem.W.keepIn K (.ref f69) = true) (a70 : PySem.W.nsIn K mainGlobals "_law_refused" = some (some (.ref f70))) (l70 : K.lookup f70 = some ⟨oc70, od70, .func (PySem.W.fnOf "_law_refused" "_law_refused" (defArgs (top 70)) (defBody (top 70)) (defScope (top 70)) .none kV70 dc70 pm70 an70 cd70 ct70), sl70⟩) (c70 : PySem.W.codeIn K cd70 "_law_refused" = true) (k70 : PySem.W.keepIn K (.ref f70) = true) (a71 : PySem.W.nsIn K mainGlobals "_law_two_right" = some (some (.ref f71))) (l71 : K.lookup f71 = some ⟨oc71, od71, .func (PySem.W.fnOf "_law_two_right" "_law_two_right" (defArgs (top 71)) (defBody (top 71)) (defScope (top 71)) .none kV71 dc71 pm71 an71 (.ref cc71) ct71), sl71⟩) (c71 : PySem.W.codeIn K (.ref cc71) "_law_two_right" = true) (k71 : PySem.W.keepIn K (.ref f71) = true) (a72 : PySem.W.nsIn K mainGlobals "_law_one_right" = some (some (.ref f72))) (l72 : K.lookup f72 = some ⟨oc72, od72, .func (PySem.W.fnOf "_law_one_right" "_law_one_right" (defArgs (top 72)) (defBody (top 72)) (defScope (top 72)) .none kV72 dc72 pm72 an72 (.ref cc72) ct72), sl72⟩) (c72 : PySem.W.codeIn K (.ref cc72) "_law_one_right" = true) (k72 : PySem.W.keepIn K (.ref f72) = true) (a73 : PySem.W.nsIn K mainGlobals "_law_is_floor_refused" = some (some (.ref f73))) (l73 : K.lookup f73 = some ⟨oc73, od73, .func (PySem.W.fnOf "_law_is_floor_refused" "_law_is_floor_refused" (defArgs (top 73)) (defBody (top 73)) (defScope (top 73)) .none kV73 dc73 pm73 an73 (.ref cc73) ct73), sl73⟩) (c73 : PySem.W.codeIn K (.ref cc73) "_law_is_floor_refused" = true) (k73 : PySem.W.keepIn K (.ref f73) = true) (a74 : PySem.W.nsIn K mainGlobals "_law_is_great_right" = some (some (.ref f74))) (l74 : K.lookup f74 = some ⟨oc74, od74, .func (PySem.W.fnOf "_law_is_great_right" "_law_is_great_right" (defArgs (top 74)) (defBody (top 74)) (defScope (top 74)) .none kV74 dc74 pm74 an74 (.ref cc74) ct74), sl74⟩) (c74 : PySem.W.codeIn K (.ref cc74) "_law_is_great_right" = true) (k74 : PySem.W.keepIn K (.ref f74) = true) (a75 : PySem.W.nsIn K mainGlobals "law" = some (some (.ref f75))) (l75 : K.lookup f75 = some ⟨oc75, od75, .func (PySem.W.fnOf "law" "law" (defArgs (top 75)) (defBody (top 75)) (defScope (top 75)) .none kV75 dc75 pm75 an75 cd75 ct75), sl75⟩) (c75 : PySem.W.codeIn K cd75 "law" = true) (k75 : PySem.W.keepIn K (.ref f75) = true)
    (z_abs : PySem.W.nsIn K mainGlobals "abs" = some none) (z_all : PySem.W.nsIn K mainGlobals "all" = some none) (z_bool : PySem.W.nsIn K mainGlobals "bool" = some none) (z_int : PySem.W.nsIn K mainGlobals "int" = some none) (z_isinstance : PySem.W.nsIn K mainGlobals "isinstance" = some none) (z_len : PySem.W.nsIn K mainGlobals "len" = some none) (z_list : PySem.W.nsIn K mainGlobals "list" = some none) (z_max : PySem.W.nsIn K mainGlobals "max" = some none) (z_range : PySem.W.nsIn K mainGlobals "range" = some none) (z_repr : PySem.W.nsIn K mainGlobals "repr" = some none) (z_sorted : PySem.W.nsIn K mainGlobals "sorted" = some none) (z_str : PySem.W.nsIn K mainGlobals "str" = some none) (z_tuple : PySem.W.nsIn K mainGlobals "tuple" = some none) (z_gcd : PySem.W.nsIn K mainGlobals "gcd" = some (some (.builtin "math.gcd"))) (z_isqrt : PySem.W.nsIn K mainGlobals "isqrt" = some (some (.builtin "math.isqrt"))) (e1_BadCount : PySem.W.nsIn K mainGlobals "BadCount" = some (some (.ref C_BadCount))) (e4_BadCount : PySem.W.subIn K (.ref C_BadCount) (.type "BaseException") = some true) (e5_BadCount : PySem.W.typeIn K (.ref C_BadCount) = some (.type "type")) (e1_BadNumber : PySem.W.nsIn K mainGlobals "BadNumber" = some (some (.ref C_BadNumber))) (e4_BadNumber : PySem.W.subIn K (.ref C_BadNumber) (.type "BaseException") = some true) (e5_BadNumber : PySem.W.typeIn K (.ref C_BadNumber) = some (.type "type")) (q1_BadNumber : (PySem.W.clsIn K C_BadNumber).isSome = true) (x1_BadNumber : PySem.W.excInitIn K C_BadNumber exT "Exception.__new__" = true) (x2_BadNumber : PySem.W.excOver K C_BadNumber exT = true) (x3_BadNumber : PySem.W.takerIn K C_BadNumber "thing" = some none) (x4_BadNumber : PySem.W.findIn K (.ref C_BadNumber) "thing" = some none) (x5_BadNumber : PySem.W.findIn K (.ref C_BadNumber) "__setattr__" = some (some (.builtin "object.__setattr__"))) (x6_BadNumber : PySem.W.findIn K (.ref C_BadNumber) "__init__" = some (some (.ref fI_BadNumber))) (x7_BadNumber : PySem.W.typeIn K (.ref fI_BadNumber) = some (.type "function")) (e3_BadNumber : PySem.W.keepIn K (.ref C_BadNumber) = true) (x9_BadNumber : PySem.W.hasDictIn K C_BadNumber = true) (y1_BadNumber : K.lookup fI_BadNumber = some ⟨oc_BadNumber, od_BadNumber, .func (PySem.W.fnOf "__init__" "BadNumber.__init__" (defArgs (initS 3)) (defBody (initS 3)) (defScope (initS 3)) .none kV_BadNumber dc_BadNumber pm_BadNumber an_BadNumber cd_BadNumber ct_BadNumber), sl_BadNumber⟩) (y2_BadNumber : PySem.W.codeIn K cd_BadNumber "BadNumber.__init__" = true) (y3_BadNumber : PySem.W.keepIn K (.ref fI_BadNumber) = true) (g1_BadNumber : PySem.W.findIn K (.ref C_BadNumber) "__getattribute__" = some (some (.builtin "BaseException.__getattribute__"))) (g2_BadNumber : PySem.W.findIn K (.ref C_BadNumber) "__getattr__" = some none) (g3_BadNumber : PySem.W.findIn K (.ref C_BadNumber) "__class__" = some (some (.builtin "object.__class__"))) (g4_BadNumber : PySem.W.mroIn K C_BadNumber (.type "object") = some true) (e1_BadPower : PySem.W.nsIn K mainGlobals "BadPower" = some (some (.ref C_BadPower))) (e4_BadPower : PySem.W.subIn K (.ref C_BadPower) (.type "BaseException") = some true) (e5_BadPower : PySem.W.typeIn K (.ref C_BadPower) = some (.type "type")) (x1_BadPower : PySem.W.excInitIn K C_BadPower exT "Exception.__new__" = true) (x2_BadPower : PySem.W.excOver K C_BadPower exT = true) (x3_BadPower : PySem.W.takerIn K C_BadPower "thing" = some none) (x4_BadPower : PySem.W.findIn K (.ref C_BadPower) "thing" = some none) (x5_BadPower : PySem.W.findIn K (.ref C_BadPower) "__setattr__" = some (some (.builtin "object.__setattr__"))) (x6_BadPower : PySem.W.findIn K (.ref C_BadPower) "__init__" = some (some (.ref fI_BadPower))) (x7_BadPower : PySem.W.typeIn K (.ref fI_BadPower) = some (.type "function")) (e3_BadPower : PySem.W.keepIn K (.ref C_BadPower) = true) (x9_BadPower : PySem.W.hasDictIn K C_BadPower = true) (y1_BadPower : K.lookup fI_BadPower = some ⟨oc_BadPower, od_BadPower, .func (PySem.W.fnOf "__init__" "BadPower.__init__" (defArgs (initS 5)) (defBody (initS 5)) (defScope (initS 5)) .none kV_BadPower dc_BadPower pm_BadPower an_BadPower cd_BadPower ct_BadPower), sl_BadPower⟩) (y2_BadPower : PySem.W.codeIn K cd_BadPower "BadPower.__init__" = true) (y3_BadPower : PySem.W.keepIn K (.ref fI_BadPower) = true) (g1_BadPower : PySem.W.findIn K (.ref C_BadPower) "__getattribute__" = some (some (.builtin "BaseException.__getattribute__"))) (g2_BadPower : PySem.W.findIn K (.ref C_BadPower) "__getattr__" = some none) (g3_BadPower : PySem.W.findIn K (.ref C_BadPower) "__class__" = some (some (.builtin "object.__class__"))) (g4_BadPower : PySem.W.mroIn K C_BadPower (.type "object") = some true) (e1_BadSide : PySem.W.nsIn K mainGlobals "BadSide" = some (some (.ref C_BadSide))) (e4_BadSide : PySem.W.subIn K (.ref C_BadSide) (.type "BaseException") = some true) (e5_BadSide : PySem.W.typeIn K (.ref C_BadSide) = some (.type "type")) (x1_BadSide : PySem.W.excInitIn K C_BadSide exT "Exception.__new__" = true) (x2_BadSide : PySem.W.excOver K C_BadSide exT = true) (x3_BadSide : PySem.W.takerIn K C_BadSide "thing" = some none) (x4_BadSide : PySem.W.findIn K (.ref C_BadSide) "thing" = some none) (x5_BadSide : PySem.W.findIn K (.ref C_BadSide) "__setattr__" = some (some (.builtin "object.__setattr__"))) (x6_BadSide : PySem.W.findIn K (.ref C_BadSide) "__init__" = some (some (.ref fI_BadSide))) (x7_BadSide : PySem.W.typeIn K (.ref fI_BadSide) = some (.type "function")) (e3_BadSide : PySem.W.keepIn K (.ref C_BadSide) = true) (x9_BadSide : PySem.W.hasDictIn K C_BadSide = true) (y1_BadSide : K.lookup fI_BadSide = some ⟨oc_BadSide, od_BadSide, .func (PySem.W.fnOf "__init__" "BadSide.__init__" (defArgs (initS 7)) (defBody (initS 7)) (defScope (initS 7)) .none kV_BadSide dc_BadSide pm_BadSide an_BadSide cd_BadSide ct_BadSide), sl_BadSide⟩) (y2_BadSide : PySem.W.codeIn K cd_BadSide "BadSide.__init__" = true) (y3_BadSide : PySem.W.keepIn K (.ref fI_BadSide) = true) (g1_BadSide : PySem.W.findIn K (.ref C_BadSide) "__getattribute__" = some (some (.builtin "BaseException.__getattribute__"))) (g2_BadSide : PySem.W.findIn K (.ref C_BadSide) "__getattr__" = some none) (g3_BadSide : PySem.W.findIn K (.ref C_BadSide) "__class__" = some (some (.builtin "object.__class__"))) (g4_BadSide : PySem.W.mroIn K C_BadSide (.type "object") = some true) (e1_BadText : PySem.W.nsIn K mainGlobals "BadText" = some (some (.ref C_BadText))) (e4_BadText : PySem.W.subIn K (.ref C_BadText) (.type "BaseException") = some true) (e5_BadText : PySem.W.typeIn K (.ref C_BadText) = some (.type "type")) (e1_DividedByZero : PySem.W.nsIn K mainGlobals "DividedByZero" = some (some (.ref C_DividedByZero))) (e4_DividedByZero : PySem.W.subIn K (.ref C_DividedByZero) (.type "BaseException") = some true) (e5_DividedByZero : PySem.W.typeIn K (.ref C_DividedByZero) = some (.type "type")) (e2_DividedByZero : PySem.W.excIn K C_DividedByZero exT "Exception.__new__" = true) (e3_DividedByZero : PySem.W.keepIn K (.ref C_DividedByZero) = true) (x9_DividedByZero : PySem.W.hasDictIn K C_DividedByZero = true) (g1_DividedByZero : PySem.W.findIn K (.ref C_DividedByZero) "__getattribute__" = some (some (.builtin "BaseException.__getattribute__"))) (g2_DividedByZero : PySem.W.findIn K (.ref C_DividedByZero) "__getattr__" = some none) (g3_DividedByZero : PySem.W.findIn K (.ref C_DividedByZero) "__class__" = some (some (.builtin "object.__class__"))) (g4_DividedByZero : PySem.W.mroIn K C_DividedByZero (.type "object") = some true) (q1_DividedByZero : (PySem.W.clsIn K C_DividedByZero).isSome = true) (e1_FloorError : PySem.W.nsIn K mainGlobals "FloorError" = some (some (.ref C_FloorError))) (e4_FloorError : PySem.W.subIn K (.ref C_FloorError) (.type "BaseException") = some true) (e5_FloorError : PySem.W.typeIn K (.ref C_FloorError) = some (.type "type")) (q1_FloorError : (PySem.W.clsIn K C_FloorError).isSome = true) (gn : PySem.W.specialIn K (.builtin "object.__class__") "__get__" = some (some (.builtin "getset_descriptor.__get__"))) (gt : PySem.W.takesIn K (.builtin "object.__class__") = some true) (r_BadNumber_BadNumber : PySem.W.subIn K (.ref C_BadNumber) (.ref C_BadNumber) = some true) (r_BadNumber_DividedByZero : PySem.W.subIn K (.ref C_BadNumber) (.ref C_DividedByZero) = some false) (r_BadNumber_FloorError : PySem.W.subIn K (.ref C_BadNumber) (.ref C_FloorError) = some true) (r_BadPower_BadNumber : PySem.W.subIn K (.ref C_BadPower) (.ref C_BadNumber) = some false) (r_BadPower_DividedByZero : PySem.W.subIn K (.ref C_BadPower) (.ref C_DividedByZero) = some false) (r_BadPower_FloorError : PySem.W.subIn K (.ref C_BadPower) (.ref C_FloorError) = some true) (r_BadSide_BadNumber : PySem.W.subIn K (.ref C_BadSide) (.ref C_BadNumber) = some false) (r_BadSide_DividedByZero : PySem.W.subIn K (.ref C_BadSide) (.ref C_DividedByZero) = some false) (r_BadSide_FloorError : PySem.W.subIn K (.ref C_BadSide) (.ref C_FloorError) = some true) (r_DividedByZero_BadNumber : PySem.W.subIn K (.ref C_DividedByZero) (.ref C_BadNumber) = some false) (r_DividedByZero_DividedByZero : PySem.W.subIn K (.ref C_DividedByZero) (.ref C_DividedByZero) = some true) (r_DividedByZero_FloorError : PySem.W.subIn K (.ref C_DividedByZero) (.ref C_FloorError) = some true) (s_BadNumber_BadCount : PySem.W.kitOne K (.ref C_BadNumber) (.ref C_BadCount) = some false) (s_BadNumber_BadPower : PySem.W.kitOne K (.ref C_BadNumber) (.ref C_BadPower) = some false) (s_BadNumber_BadText : PySem.W.kitOne K (.ref C_BadNumber) (.ref C_BadText) = some false) (s_BadNumber_DividedByZero : PySem.W.kitOne K (.ref C_BadNumber) (.ref C_DividedByZero) = some false) (s_BadNumber_FloorError : PySem.W.kitOne K (.ref C_BadNumber) (.ref C_FloorError) = some true) (s_BadPower_BadCount : PySem.W.kitOne K (.ref C_BadPower) (.ref C_BadCount) = some false) (s_BadPower_BadPower : PySem.W.kitOne K (.ref C_BadPower) (.ref C_BadPower) = some true) (s_BadPower_BadText : PySem.W.kitOne K (.ref C_BadPower) (.ref C_BadText) = some false) (s_BadPower_DividedByZero : PySem.W.kitOne K (.ref C_BadPower) (.ref C_DividedByZero) = some false) (s_BadPower_FloorError : PySem.W.kitOne K (.ref C_BadPower) (.ref C_FloorError) = some true) (s_BadSide_BadCount : PySem.W.kitOne K (.ref C_BadSide) (.ref C_BadCount) = some false) (s_BadSide_BadPower : PySem.W.kitOne K (.ref C_BadSide) (.ref C_BadPower) = some false) (s_BadSide_BadText : PySem.W.kitOne K (.ref C_BadSide) (.ref C_BadText) = some false) (s_BadSide_DividedByZero : PySem.W.kitOne K (.ref C_BadSide) (.ref C_DividedByZero) = some false) (s_BadSide_FloorError : PySem.W.kitOne K (.ref C_BadSide) (.ref C_FloorError) = some true) (s_DividedByZero_BadCount : PySem.W.kitOne K (.ref C_DividedByZero) (.ref C_BadCount) = some false) (s_DividedByZero_BadPower : PySem.W.kitOne K (.ref C_DividedByZero) (.ref C_BadPower) = some false) (s_DividedByZero_BadText : PySem.W.kitOne K (.ref C_DividedByZero) (.ref C_BadText) = some false) (s_DividedByZero_DividedByZero : PySem.W.kitOne K (.ref C_DividedByZero) (.ref C_DividedByZero) = some true) (s_DividedByZero_FloorError : PySem.W.kitOne K (.ref C_DividedByZero) (.ref C_FloorError) = some true) (d1 : PySem.W.nsOkIn K cStatics = true) (d2 : PySem.W.nsIn K cStatics "sys.int_max_str_digits" = some none) (G_FIRST_SIDE : PySem.W.nsIn K mainGlobals "FIRST_SIDE" = some (some (.ref Ty1))) (Fy1 : K.lookup Ty1 = some ⟨.type "tuple", Dy1, .seq #[(.int 1 y2), (.int (-1) y3), (.int 1 y4), (.int 1 y5), (.int (-1) y6)] Ny1, Sy1⟩) (G_NO_SIDE : PySem.W.nsIn K mainGlobals "NO_SIDE" = some (some (.ref Ty7))) (Fy7 : K.lookup Ty7 = some ⟨.type "tuple", Dy7, .seq #[(.int 0 y8), (.int 0 y9), (.int 0 y10), (.int 0 y11), (.int 0 y12)] Ny7, Sy7⟩) (G_ONE : PySem.W.nsIn K mainGlobals "ONE" = some (some (.ref Ty13))) (Fy13 : K.lookup Ty13 = some ⟨.type "tuple", Dy13, .seq #[(.int 1 y14), (.int 0 y15), (.int 1 y16)] Ny13, Sy13⟩) (G_POWER_MOST : PySem.W.nsIn K mainGlobals "POWER_MOST" = some (some (.int 2000 y17))) (o1_Floor : PySem.W.nsIn K mainGlobals "Floor" = some (some (.ref C_Floor))) (o2_Floor : PySem.W.plainGet K C_Floor Str.empty = true) (o3_Floor : PySem.W.hasDictIn K C_Floor = true) (o4_Floor : PySem.W.plainOver K C_Floor = true) (o5_Floor : PySem.W.findIn K (.ref C_Floor) "__setattr__" = some (some (.builtin "object.__setattr__"))) (o6_Floor : PySem.W.findIn K (.ref C_Floor) "__class__" = some (some (.builtin "object.__class__"))) (o7_Floor : PySem.W.mroIn K C_Floor (.type "object") = some true) (of_Floor_all_keys : PySem.W.findIn K (.ref C_Floor) "all_keys" = some none) (of_Floor_side : PySem.W.findIn K (.ref C_Floor) "side" = some none) (ob_Floor_NoneType : PySem.W.kitOne K (.type "NoneType") (.ref C_Floor) = some false) (ot_Floor_NoneType : PySem.W.kitOne K (.ref C_Floor) (.type "NoneType") = some false) (os_Floor_NoneType : PySem.W.subIn K (.type "NoneType") (.ref C_Floor) = some false) (ob_Floor_bool : PySem.W.kitOne K (.type "bool") (.ref C_Floor) = some false) (ot_Floor_bool : PySem.W.kitOne K (.ref C_Floor) (.type "bool") = some false) (os_Floor_bool : PySem.W.subIn K (.type "bool") (.ref C_Floor) = some false) (ob_Floor_int : PySem.W.kitOne K (.type "int") (.ref C_Floor) = some false) (ot_Floor_int : PySem.W.kitOne K (.ref C_Floor) (.type "int") = some false) (os_Floor_int : PySem.W.subIn K (.type "int") (.ref C_Floor) = some false) (ob_Floor_str : PySem.W.kitOne K (.type "str") (.ref C_Floor) = some false) (ot_Floor_str : PySem.W.kitOne K (.ref C_Floor) (.type "str") = some false) (os_Floor_str : PySem.W.subIn K (.type "str") (.ref C_Floor) = some false) (ob_Floor_tuple : PySem.W.kitOne K (.type "tuple") (.ref C_Floor) = some false) (ot_Floor_tuple : PySem.W.kitOne K (.ref C_Floor) (.type "tuple") = some false) (os_Floor_tuple : PySem.W.subIn K (.type "tuple") (.ref C_Floor) = some false) (ob_Floor_list : PySem.W.kitOne K (.type "list") (.ref C_Floor) = some false) (ot_Floor_list : PySem.W.kitOne K (.ref C_Floor) (.type "list") = some false) (os_Floor_list : PySem.W.subIn K (.type "list") (.ref C_Floor) = some false) (ob_Floor_dict : PySem.W.kitOne K (.type "dict") (.ref C_Floor) = some false) (ot_Floor_dict : PySem.W.kitOne K (.ref C_Floor) (.type "dict") = some false) (os_Floor_dict : PySem.W.subIn K (.type "dict") (.ref C_Floor) = some false) (oo_Floor : PySem.W.kitOne K (.ref C_Floor) (.ref C_Floor) = some true) (m1_Floor : PySem.W.makesIn K C_Floor = true) (m2_Floor : PySem.W.findIn K (.ref C_Floor) "__init__" = some (some (.ref fI_Floor))) (m3_Floor : PySem.W.isFn K (.ref fI_Floor) = true) (m4_Floor : PySem.W.keepIn K (.ref C_Floor) = true) (lI_Floor : K.lookup fI_Floor = some ⟨ocI_Floor, odI_Floor, .func (PySem.W.fnOf "__init__" "Floor.__init__" (defArgs (methS 56 0)) (defBody (methS 56 0)) (defScope (methS 56 0)) (.ref DI_Floor) kVI_Floor dcI_Floor pmI_Floor anI_Floor cdI_Floor ctI_Floor), slI_Floor⟩) (cI_Floor : PySem.W.codeIn K cdI_Floor "Floor.__init__" = true) (kI_Floor : PySem.W.keepIn K (.ref fI_Floor) = true) (ddI_Floor : K.lookup DI_Floor = some ⟨DCI_Floor, DDI_Floor, .seq #[(.ref Ty18)] DNI_Floor, DSI_Floor⟩) (Fy18 : K.lookup Ty18 = some ⟨.type "tuple", Dy18, .seq #[(.int 0 y19), (.int 0 y20), (.int 0 y21), (.int 0 y22), (.int 0 y23)] Ny18, Sy18⟩) (q2_Floor : PySem.W.findIn K (.ref C_Floor) "__eq__" = some (some (.ref fE_Floor))) (q3_Floor : PySem.W.isFn K (.ref fE_Floor) = true) (lE_Floor : K.lookup fE_Floor = some ⟨ocE_Floor, odE_Floor, .func (PySem.W.fnOf "__eq__" "Floor.__eq__" (defArgs (methS 56 1)) (defBody (methS 56 1)) (defScope (methS 56 1)) .none kVE_Floor dcE_Floor pmE_Floor anE_Floor cdE_Floor ctE_Floor), slE_Floor⟩) (cE_Floor : PySem.W.codeIn K cdE_Floor "Floor.__eq__" = true) (kE_Floor : PySem.W.keepIn K (.ref fE_Floor) = true) (ta71 : K.lookup cc71 = some ⟨tc71, td71, .fields tv71, ts71⟩) (tb71 : tv71[11]? = some (.ref Pt71)) (n71 : K.lookup Pt71 = none) (th71 : ∀ c Pt : Addr, PySem.W.tabIn K "_law_two_right" = some (c, Pt) → PySem.W.CodeHd h c Pt ∧ h.get? Pt = some { cls := .none, data := .fields #[] }) (ta72 : K.lookup cc72 = some ⟨tc72, td72, .fields tv72, ts72⟩) (tb72 : tv72[11]? = some (.ref Pt72)) (n72 : K.lookup Pt72 = none) (th72 : ∀ c Pt : Addr, PySem.W.tabIn K "_law_one_right" = some (c, Pt) → PySem.W.CodeHd h c Pt ∧ h.get? Pt = some { cls := .none, data := .fields #[] }) (ta73 : K.lookup cc73 = some ⟨tc73, td73, .fields tv73, ts73⟩) (tb73 : tv73[11]? = some (.ref Pt73)) (n73 : K.lookup Pt73 = none) (th73 : ∀ c Pt : Addr, PySem.W.tabIn K "_law_is_floor_refused" = some (c, Pt) → PySem.W.CodeHd h c Pt ∧ h.get? Pt = some { cls := .none, data := .fields #[] }) (ta74 : K.lookup cc74 = some ⟨tc74, td74, .fields tv74, ts74⟩) (tb74 : tv74[11]? = some (.ref Pt74)) (n74 : K.lookup Pt74 = none) (th74 : ∀ c Pt : Addr, PySem.W.tabIn K "_law_is_great_right" = some (c, Pt) → PySem.W.CodeHd h c Pt ∧ h.get? Pt = some { cls := .none, data := .fields #[] }) (u71_72 : (Pt71 == Pt72) = false) (u71_73 : (Pt71 == Pt73) = false) (u71_74 : (Pt71 == Pt74) = false) (u72_73 : (Pt72 == Pt73) = false) (u72_74 : (Pt72 == Pt74) = false) (u73_74 : (Pt73 == Pt74) = false) :
    ∃ (fd : FuncData) (T : List (Addr × Addr × Str)), (∀ p ∈ T, h.get? p.2.1 = some { cls := .none, data := .fields #[] } ∧ K.lookup p.2.1 = none ∧ PySem.W.CodeHd h p.1 p.2.1) ∧ (∀ (s : Shared) (u : Value), BindsTo s fd ⟨[u], []⟩ [("_law_script", u)]) ∧ ∀ base : Heap, K.In base → base.Ns mainGlobals mg → (∀ p ∈ T, LamX.TabB base mg p.1 p.2.1) → FnG l.prog w K mg base 9 fa fd ["_law_script"] (spLaw K (T.map fun p => (p.2.1, p.2.2))) := by
  have e := hfa.symm.trans (PySem.W.mg_of X G a75)
  cases e
  have bt : Bt mg := ⟨PySem.W.mg_none_of X G z_abs, PySem.W.mg_none_of X G z_all, PySem.W.mg_none_of X G z_bool, PySem.W.mg_none_of X G z_int, PySem.W.mg_none_of X G z_isinstance, PySem.W.mg_none_of X G z_len, PySem.W.mg_none_of X G z_list, PySem.W.mg_none_of X G z_max, PySem.W.mg_none_of X G z_range, PySem.W.mg_none_of X G z_repr, PySem.W.mg_none_of X G z_sorted, PySem.W.mg_none_of X G z_str, PySem.W.mg_none_of X G z_tuple, PySem.W.mg_of X G z_gcd, PySem.W.mg_of X G z_isqrt⟩
  have m_BadCount : mg "BadCount" = some (.ref C_BadCount) := PySem.W.mg_of X G e1_BadCount
  have m_BadNumber : mg "BadNumber" = some (.ref C_BadNumber) := PySem.W.mg_of X G e1_BadNumber
  have m_BadPower : mg "BadPower" = some (.ref C_BadPower) := PySem.W.mg_of X G e1_BadPower
  have m_BadSide : mg "BadSide" = some (.ref C_BadSide) := PySem.W.mg_of X G e1_BadSide
  have m_BadText : mg "BadText" = some (.ref C_BadText) := PySem.W.mg_of X G e1_BadText
  have m_DividedByZero : mg "DividedByZero" = some (.ref C_DividedByZero) := PySem.W.mg_of X G e1_DividedByZero
  have m_FloorError : mg "FloorError" = some (.ref C_FloorError) := PySem.W.mg_of X G e1_FloorError
  have T_DividedByZero : Er0 K mg "DividedByZero" C_DividedByZero := ⟨m_DividedByZero, e2_DividedByZero, e3_DividedByZero, e4_DividedByZero, e5_DividedByZero⟩
  have T_BadNumber : ErC K mg "BadNumber" "thing" C_BadNumber fI_BadNumber := ⟨m_BadNumber, x1_BadNumber, x2_BadNumber, x3_BadNumber, x4_BadNumber, x5_BadNumber, x6_BadNumber, x7_BadNumber, e3_BadNumber, e4_BadNumber, e5_BadNumber, x9_BadNumber⟩
  have N_BadNumber := in_BadNumber (fun_mk (x := "__init__") (st := initS 3) y1_BadNumber y2_BadNumber y3_BadNumber)
  have T_BadPower : ErC K mg "BadPower" "thing" C_BadPower fI_BadPower := ⟨m_BadPower, x1_BadPower, x2_BadPower, x3_BadPower, x4_BadPower, x5_BadPower, x6_BadPower, x7_BadPower, e3_BadPower, e4_BadPower, e5_BadPower, x9_BadPower⟩
  have N_BadPower := in_BadPower (fun_mk (x := "__init__") (st := initS 5) y1_BadPower y2_BadPower y3_BadPower)
  have T_BadSide : ErC K mg "BadSide" "thing" C_BadSide fI_BadSide := ⟨m_BadSide, x1_BadSide, x2_BadSide, x3_BadSide, x4_BadSide, x5_BadSide, x6_BadSide, x7_BadSide, e3_BadSide, e4_BadSide, e5_BadSide, x9_BadSide⟩
  have N_BadSide := in_BadSide (fun_mk (x := "__init__") (st := initS 7) y1_BadSide y2_BadSide y3_BadSide)
  have tab : ClsTab ⟨K, mg⟩ clsM := fun x y b u v h hu hv => by
    have hm := look3_mem h
    simp only [clsML, List.mem_cons, List.not_mem_nil, or_false, Prod.mk.injEq] at hm
    rcases hm with ⟨rfl, rfl, rfl⟩ | ⟨rfl, rfl, rfl⟩ | ⟨rfl, rfl, rfl⟩ | ⟨rfl, rfl, rfl⟩ | ⟨rfl, rfl, rfl⟩ | ⟨rfl, rfl, rfl⟩ | ⟨rfl, rfl, rfl⟩ | ⟨rfl, rfl, rfl⟩ | ⟨rfl, rfl, rfl⟩ | ⟨rfl, rfl, rfl⟩ | ⟨rfl, rfl, rfl⟩ | ⟨rfl, rfl, rfl⟩
    · cases m_BadNumber.symm.trans hu; cases m_BadNumber.symm.trans hv; exact exm_of q1_BadNumber e4_BadNumber e5_BadNumber r_BadNumber_BadNumber
    · cases m_BadNumber.symm.trans hu; cases m_DividedByZero.symm.trans hv; exact exm_of q1_DividedByZero e4_DividedByZero e5_DividedByZero r_BadNumber_DividedByZero
    · cases m_BadNumber.symm.trans hu; cases m_FloorError.symm.trans hv; exact exm_of q1_FloorError e4_FloorError e5_FloorError r_BadNumber_FloorError
    · cases m_BadPower.symm.trans hu; cases m_BadNumber.symm.trans hv; exact exm_of q1_BadNumber e4_BadNumber e5_BadNumber r_BadPower_BadNumber
    · cases m_BadPower.symm.trans hu; cases m_DividedByZero.symm.trans hv; exact exm_of q1_DividedByZero e4_DividedByZero e5_DividedByZero r_BadPower_DividedByZero
    · cases m_BadPower.symm.trans hu; cases m_FloorError.symm.trans hv; exact exm_of q1_FloorError e4_FloorError e5_FloorError r_BadPower_FloorError
    · cases m_BadSide.symm.trans hu; cases m_BadNumber.symm.trans hv; exact exm_of q1_BadNumber e4_BadNumber e5_BadNumber r_BadSide_BadNumber
    · cases m_BadSide.symm.trans hu; cases m_DividedByZero.symm.trans hv; exact exm_of q1_DividedByZero e4_DividedByZero e5_DividedByZero r_BadSide_DividedByZero
    · cases m_BadSide.symm.trans hu; cases m_FloorError.symm.trans hv; exact exm_of q1_FloorError e4_FloorError e5_FloorError r_BadSide_FloorError
    · cases m_DividedByZero.symm.trans hu; cases m_BadNumber.symm.trans hv; exact exm_of q1_BadNumber e4_BadNumber e5_BadNumber r_DividedByZero_BadNumber
    · cases m_DividedByZero.symm.trans hu; cases m_DividedByZero.symm.trans hv; exact exm_of q1_DividedByZero e4_DividedByZero e5_DividedByZero r_DividedByZero_DividedByZero
    · cases m_DividedByZero.symm.trans hu; cases m_FloorError.symm.trans hv; exact exm_of q1_FloorError e4_FloorError e5_FloorError r_DividedByZero_FloorError
  have X_BadNumber : ExcC K C_BadNumber := ⟨g1_BadNumber, g2_BadNumber, e4_BadNumber, x9_BadNumber, g3_BadNumber, gn, gt, g4_BadNumber⟩
  have X_BadPower : ExcC K C_BadPower := ⟨g1_BadPower, g2_BadPower, e4_BadPower, x9_BadPower, g3_BadPower, gn, gt, g4_BadPower⟩
  have X_BadSide : ExcC K C_BadSide := ⟨g1_BadSide, g2_BadSide, e4_BadSide, x9_BadSide, g3_BadSide, gn, gt, g4_BadSide⟩
  have X_DividedByZero : ExcC K C_DividedByZero := ⟨g1_DividedByZero, g2_DividedByZero, e4_DividedByZero, x9_DividedByZero, g3_DividedByZero, gn, gt, g4_DividedByZero⟩
  have isi : IsiTab ⟨K, mg⟩ clsI := fun x y b h => by
    have hm := look3_mem h
    simp only [clsIL, List.mem_cons, List.not_mem_nil, or_false, Prod.mk.injEq] at hm
    rcases hm with ⟨rfl, rfl, rfl⟩ | ⟨rfl, rfl, rfl⟩ | ⟨rfl, rfl, rfl⟩ | ⟨rfl, rfl, rfl⟩ | ⟨rfl, rfl, rfl⟩ | ⟨rfl, rfl, rfl⟩ | ⟨rfl, rfl, rfl⟩ | ⟨rfl, rfl, rfl⟩ | ⟨rfl, rfl, rfl⟩ | ⟨rfl, rfl, rfl⟩ | ⟨rfl, rfl, rfl⟩ | ⟨rfl, rfl, rfl⟩ | ⟨rfl, rfl, rfl⟩ | ⟨rfl, rfl, rfl⟩ | ⟨rfl, rfl, rfl⟩ | ⟨rfl, rfl, rfl⟩ | ⟨rfl, rfl, rfl⟩ | ⟨rfl, rfl, rfl⟩ | ⟨rfl, rfl, rfl⟩ | ⟨rfl, rfl, rfl⟩
    · exact ⟨C_BadNumber, C_BadCount, m_BadNumber, m_BadCount, X_BadNumber, s_BadNumber_BadCount⟩
    · exact ⟨C_BadNumber, C_BadPower, m_BadNumber, m_BadPower, X_BadNumber, s_BadNumber_BadPower⟩
    · exact ⟨C_BadNumber, C_BadText, m_BadNumber, m_BadText, X_BadNumber, s_BadNumber_BadText⟩
    · exact ⟨C_BadNumber, C_DividedByZero, m_BadNumber, m_DividedByZero, X_BadNumber, s_BadNumber_DividedByZero⟩
    · exact ⟨C_BadNumber, C_FloorError, m_BadNumber, m_FloorError, X_BadNumber, s_BadNumber_FloorError⟩
    · exact ⟨C_BadPower, C_BadCount, m_BadPower, m_BadCount, X_BadPower, s_BadPower_BadCount⟩
    · exact ⟨C_BadPower, C_BadPower, m_BadPower, m_BadPower, X_BadPower, s_BadPower_BadPower⟩
    · exact ⟨C_BadPower, C_BadText, m_BadPower, m_BadText, X_BadPower, s_BadPower_BadText⟩
    · exact ⟨C_BadPower, C_DividedByZero, m_BadPower, m_DividedByZero, X_BadPower, s_BadPower_DividedByZero⟩
    · exact ⟨C_BadPower, C_FloorError, m_BadPower, m_FloorError, X_BadPower, s_BadPower_FloorError⟩
    · exact ⟨C_BadSide, C_BadCount, m_BadSide, m_BadCount, X_BadSide, s_BadSide_BadCount⟩
    · exact ⟨C_BadSide, C_BadPower, m_BadSide, m_BadPower, X_BadSide, s_BadSide_BadPower⟩
    · exact ⟨C_BadSide, C_BadText, m_BadSide, m_BadText, X_BadSide, s_BadSide_BadText⟩
    · exact ⟨C_BadSide, C_DividedByZero, m_BadSide, m_DividedByZero, X_BadSide, s_BadSide_DividedByZero⟩
    · exact ⟨C_BadSide, C_FloorError, m_BadSide, m_FloorError, X_BadSide, s_BadSide_FloorError⟩
    · exact ⟨C_DividedByZero, C_BadCount, m_DividedByZero, m_BadCount, X_DividedByZero, s_DividedByZero_BadCount⟩
    · exact ⟨C_DividedByZero, C_BadPower, m_DividedByZero, m_BadPower, X_DividedByZero, s_DividedByZero_BadPower⟩
    · exact ⟨C_DividedByZero, C_BadText, m_DividedByZero, m_BadText, X_DividedByZero, s_DividedByZero_BadText⟩
    · exact ⟨C_DividedByZero, C_DividedByZero, m_DividedByZero, m_DividedByZero, X_DividedByZero, s_DividedByZero_DividedByZero⟩
    · exact ⟨C_DividedByZero, C_FloorError, m_DividedByZero, m_FloorError, X_DividedByZero, s_DividedByZero_FloorError⟩
  have get_thing : GetTab ⟨K, mg⟩ knownE "thing" := fun nm hk => by
    simp only [knownE, Bool.or_eq_true, beq_iff_eq] at hk
    rcases hk with ((rfl | rfl) | rfl)
    · exact ⟨C_BadNumber, m_BadNumber, ⟨g1_BadNumber, g2_BadNumber, e4_BadNumber, x9_BadNumber, x4_BadNumber⟩⟩
    · exact ⟨C_BadPower, m_BadPower, ⟨g1_BadPower, g2_BadPower, e4_BadPower, x9_BadPower, x4_BadPower⟩⟩
    · exact ⟨C_BadSide, m_BadSide, ⟨g1_BadSide, g2_BadSide, e4_BadSide, x9_BadSide, x4_BadSide⟩⟩
  have m_Floor : mg "Floor" = some (.ref C_Floor) := PySem.W.mg_of X G o1_Floor
  have cl_Floor : Cls K C_Floor := ⟨o2_Floor, o3_Floor, o4_Floor, o5_Floor⟩
  have O_Floor : ObC ⟨K, mg⟩ "Floor" C_Floor := ⟨m_Floor, cl_Floor, o6_Floor, gn, gt, o7_Floor⟩
  have obt : ObTab ⟨K, mg⟩ knownO := obtab_one O_Floor (fun t ht => by
    simp only [tyL, List.mem_cons, List.not_mem_nil, or_false] at ht
    rcases ht with rfl | rfl | rfl | rfl | rfl | rfl | rfl
    · exact ob_Floor_NoneType
    · exact ob_Floor_bool
    · exact ob_Floor_int
    · exact ob_Floor_str
    · exact ob_Floor_tuple
    · exact ob_Floor_list
    · exact ob_Floor_dict) (fun t ht => by
    simp only [tyL, List.mem_cons, List.not_mem_nil, or_false] at ht
    rcases ht with rfl | rfl | rfl | rfl | rfl | rfl | rfl
    · exact ot_Floor_NoneType
    · exact ot_Floor_bool
    · exact ot_Floor_int
    · exact ot_Floor_str
    · exact ot_Floor_tuple
    · exact ot_Floor_list
    · exact ot_Floor_dict) oo_Floor (fun t ht => by
    simp only [tyL, List.mem_cons, List.not_mem_nil, or_false] at ht
    rcases ht with rfl | rfl | rfl | rfl | rfl | rfl | rfl
    · exact os_Floor_NoneType
    · exact os_Floor_bool
    · exact os_Floor_int
    · exact os_Floor_str
    · exact os_Floor_tuple
    · exact os_Floor_list
    · exact os_Floor_dict)
  have fldt : FldTab ⟨K, mg⟩ fldO := fun n f h => by
    simp only [fldO, Bool.or_eq_true, Bool.and_eq_true, beq_iff_eq] at h
    rcases h with (⟨rfl, rfl⟩ | ⟨rfl, rfl⟩)
    · exact ⟨C_Floor, m_Floor, cl_Floor, of_Floor_all_keys⟩
    · exact ⟨C_Floor, m_Floor, cl_Floor, of_Floor_side⟩
  have gl_FIRST_SIDE : GlobC ⟨K, mg⟩ "FIRST_SIDE" (.tup [.int 1, .int (-1), .int 1, .int 1, .int (-1)]) := ⟨(.ref Ty1), (.ref Ty1), PySem.W.mg_of X G G_FIRST_SIDE, rfl, fun F => rep_ktup (K := ⟨K, mg⟩) Fy1 (show (5 : Nat) ≤ sizeLine by decide) (.cons (relv_int 1 y2) (.cons (relv_int (-1) y3) (.cons (relv_int 1 y4) (.cons (relv_int 1 y5) (.cons (relv_int (-1) y6) .nil))))) (fun F => (.cons (.int _) (.cons (.int _) (.cons (.int _) (.cons (.int _) (.cons (.int _) .nil)))))) F⟩
  have gl_NO_SIDE : GlobC ⟨K, mg⟩ "NO_SIDE" (.tup [.int 0, .int 0, .int 0, .int 0, .int 0]) := ⟨(.ref Ty7), (.ref Ty7), PySem.W.mg_of X G G_NO_SIDE, rfl, fun F => rep_ktup (K := ⟨K, mg⟩) Fy7 (show (5 : Nat) ≤ sizeLine by decide) (.cons (relv_int 0 y8) (.cons (relv_int 0 y9) (.cons (relv_int 0 y10) (.cons (relv_int 0 y11) (.cons (relv_int 0 y12) .nil))))) (fun F => (.cons (.int _) (.cons (.int _) (.cons (.int _) (.cons (.int _) (.cons (.int _) .nil)))))) F⟩
  have gl_ONE : GlobC ⟨K, mg⟩ "ONE" (.tup [.int 1, .int 0, .int 1]) := ⟨(.ref Ty13), (.ref Ty13), PySem.W.mg_of X G G_ONE, rfl, fun F => rep_ktup (K := ⟨K, mg⟩) Fy13 (show (3 : Nat) ≤ sizeLine by decide) (.cons (relv_int 1 y14) (.cons (relv_int 0 y15) (.cons (relv_int 1 y16) .nil))) (fun F => (.cons (.int _) (.cons (.int _) (.cons (.int _) .nil)))) F⟩
  have gl_POWER_MOST : GlobC ⟨K, mg⟩ "POWER_MOST" (.int 2000) := ⟨(.int 2000), (.int 2000 y17), PySem.W.mg_of X G G_POWER_MOST, relv_int 2000 y17, fun F => .int _⟩
  have ct : Ct K mg := ⟨⟨C_DividedByZero, T_DividedByZero⟩, ⟨C_BadNumber, fI_BadNumber, T_BadNumber, N_BadNumber⟩, ⟨C_BadPower, fI_BadPower, T_BadPower, N_BadPower⟩, ⟨C_BadSide, fI_BadSide, T_BadSide, N_BadSide⟩, ⟨C_BadNumber, m_BadNumber⟩, ⟨C_DividedByZero, m_DividedByZero⟩, ⟨C_FloorError, m_FloorError⟩, tab, isi, get_thing, ⟨d1, d2⟩, obt, fldt, gl_FIRST_SIDE, gl_NO_SIDE, gl_ONE, gl_POWER_MOST⟩
  have F11 := fun_mk (st := top 11) l11 c11 k11
  have F12 := fun_mk (st := top 12) l12 c12 k12
  have F13 := fun_mk (st := top 13) l13 c13 k13
  have F14 := fun_mk (st := top 14) l14 c14 k14
  have F15 := fun_mk (st := top 15) l15 c15 k15
  have F16 := fun_mk (st := top 16) l16 c16 k16
  have F17 := fun_mk (st := top 17) l17 c17 k17
  have F18 := fun_mk (st := top 18) l18 c18 k18
  have F19 := fun_mk (st := top 19) l19 c19 k19
  have F20 := fun_mk (st := top 20) l20 c20 k20
  have F21 := fun_mk (st := top 21) l21 c21 k21
  have F22 := fun_mk (st := top 22) l22 c22 k22
  have F23 := fun_mk (st := top 23) l23 c23 k23
  have F24 := fun_mk (st := top 24) l24 c24 k24
  have F25 := fun_mk (st := top 25) l25 c25 k25
  have F26 := fun_mk (st := top 26) l26 c26 k26
  have F30 := fun_mk (st := top 30) l30 c30 k30
  have F31 := fun_mk (st := top 31) l31 c31 k31
  have F32 := fun_mk (st := top 32) l32 c32 k32
  have F33 := fun_mk (st := top 33) l33 c33 k33
  have F34 := fun_mk (st := top 34) l34 c34 k34
  have F35 := fun_mk (st := top 35) l35 c35 k35
  have F36 := fun_mk (st := top 36) l36 c36 k36
  have F37 := fun_mk (st := top 37) l37 c37 k37
  have F38 := fun_mk (st := top 38) l38 c38 k38
  have F39 := fun_mk (st := top 39) l39 c39 k39
  have F40 := fun_mk (st := top 40) l40 c40 k40
  have F41 := fun_mk (st := top 41) l41 c41 k41
  have F42 := fun_mk (st := top 42) l42 c42 k42
  have F43 := fun_mk (st := top 43) l43 c43 k43
  have F44 := fun_mk (st := top 44) l44 c44 k44
  have F45 := fun_mk (st := top 45) l45 c45 k45
  have F52 := fun_mk (st := top 52) l52 c52 k52
  have F53 := fun_mk (st := top 53) l53 c53 k53
  have F54 := fun_mk (st := top 54) l54 c54 k54
  have F55 := fun_mk (st := top 55) l55 c55 k55
  have F60 := fun_mk (st := top 60) l60 c60 k60
  have F61 := fun_mk (st := top 61) l61 c61 k61
  have F62 := fun_mk (st := top 62) l62 c62 k62
  have F63 := fun_mk (st := top 63) l63 c63 k63
  have F64 := fun_mk (st := top 64) l64 c64 k64
  have F65 := fun_mk (st := top 65) l65 c65 k65
  have F66 := fun_mk (st := top 66) l66 c66 k66
  have F67 := fun_mk (st := top 67) l67 c67 k67
  have F68 := fun_mk (st := top 68) l68 c68 k68
  have F69 := fun_mk (st := top 69) l69 c69 k69
  have F70 := fun_mk (st := top 70) l70 c70 k70
  have F71 : FunC K "_law_two_right" (top 71) f71 (.ref cc71) := ⟨⟨_, _, _, _, _, _, _, _, l71, c71⟩, k71⟩
  have F72 : FunC K "_law_one_right" (top 72) f72 (.ref cc72) := ⟨⟨_, _, _, _, _, _, _, _, l72, c72⟩, k72⟩
  have F73 : FunC K "_law_is_floor_refused" (top 73) f73 (.ref cc73) := ⟨⟨_, _, _, _, _, _, _, _, l73, c73⟩, k73⟩
  have F74 : FunC K "_law_is_great_right" (top 74) f74 (.ref cc74) := ⟨⟨_, _, _, _, _, _, _, _, l74, c74⟩, k74⟩
  have F75 := fun_mk (st := top 75) l75 c75 k75
  refine ⟨PySem.W.fnOf "law" "law" (defArgs (top 75)) (defBody (top 75)) (defScope (top 75)) .none kV75 dc75 pm75 an75 cd75 ct75, [(cc71, Pt71, ql__law_two_right), (cc72, Pt72, ql__law_one_right), (cc73, Pt73, ql__law_is_floor_refused), (cc74, Pt74, ql__law_is_great_right)], fun p hp => ?_, fun s v => .of_eq rfl, fun base _ _ TB => ?_⟩
  · simp only [List.mem_cons, List.not_mem_nil, or_false] at hp
    rcases hp with rfl | rfl | rfl | rfl
    · have hh := th71 _ _ (tabIn_of a71 l71 rfl ta71 tb71)
      exact ⟨hh.2, n71, hh.1⟩
    · have hh := th72 _ _ (tabIn_of a72 l72 rfl ta72 tb72)
      exact ⟨hh.2, n72, hh.1⟩
    · have hh := th73 _ _ (tabIn_of a73 l73 rfl ta73 tb73)
      exact ⟨hh.2, n73, hh.1⟩
    · have hh := th74 _ _ (tabIn_of a74 l74 rfl ta74 tb74)
      exact ⟨hh.2, n74, hh.1⟩
  show FnG l.prog w K mg base _ _ _ _ (spLaw K [(Pt71, ql__law_two_right), (Pt72, ql__law_one_right), (Pt73, ql__law_is_floor_refused), (Pt74, ql__law_is_great_right)])
  have tb__law_two_right : LamX.TabB base mg cc71 Pt71 := TB (cc71, Pt71, ql__law_two_right) (by simp)
  have inT__law_two_right : (Pt71, ql__law_two_right) ∈ ([(Pt71, ql__law_two_right), (Pt72, ql__law_one_right), (Pt73, ql__law_is_floor_refused), (Pt74, ql__law_is_great_right)] : List (Addr × Str)) := by simp
  have one__law_two_right : ∀ p ∈ ([(Pt71, ql__law_two_right), (Pt72, ql__law_one_right), (Pt73, ql__law_is_floor_refused), (Pt74, ql__law_is_great_right)] : List (Addr × Str)), p.1 = Pt71 → p.2 = ql__law_two_right := fun p hp e => by
    simp only [List.mem_cons, List.not_mem_nil, or_false] at hp
    rcases hp with rfl | rfl | rfl | rfl
    · rfl
    · exact absurd (show Pt72 = Pt71 from e) (Ne.symm (beq_eq_false_iff_ne.mp u71_72))
    · exact absurd (show Pt73 = Pt71 from e) (Ne.symm (beq_eq_false_iff_ne.mp u71_73))
    · exact absurd (show Pt74 = Pt71 from e) (Ne.symm (beq_eq_false_iff_ne.mp u71_74))
  have tb__law_one_right : LamX.TabB base mg cc72 Pt72 := TB (cc72, Pt72, ql__law_one_right) (by simp)
  have inT__law_one_right : (Pt72, ql__law_one_right) ∈ ([(Pt71, ql__law_two_right), (Pt72, ql__law_one_right), (Pt73, ql__law_is_floor_refused), (Pt74, ql__law_is_great_right)] : List (Addr × Str)) := by simp
  have one__law_one_right : ∀ p ∈ ([(Pt71, ql__law_two_right), (Pt72, ql__law_one_right), (Pt73, ql__law_is_floor_refused), (Pt74, ql__law_is_great_right)] : List (Addr × Str)), p.1 = Pt72 → p.2 = ql__law_one_right := fun p hp e => by
    simp only [List.mem_cons, List.not_mem_nil, or_false] at hp
    rcases hp with rfl | rfl | rfl | rfl
    · exact absurd (show Pt71 = Pt72 from e) (beq_eq_false_iff_ne.mp u71_72)
    · rfl
    · exact absurd (show Pt73 = Pt72 from e) (Ne.symm (beq_eq_false_iff_ne.mp u72_73))
    · exact absurd (show Pt74 = Pt72 from e) (Ne.symm (beq_eq_false_iff_ne.mp u72_74))
  have tb__law_is_floor_refused : LamX.TabB base mg cc73 Pt73 := TB (cc73, Pt73, ql__law_is_floor_refused) (by simp)
  have inT__law_is_floor_refused : (Pt73, ql__law_is_floor_refused) ∈ ([(Pt71, ql__law_two_right), (Pt72, ql__law_one_right), (Pt73, ql__law_is_floor_refused), (Pt74, ql__law_is_great_right)] : List (Addr × Str)) := by simp
  have one__law_is_floor_refused : ∀ p ∈ ([(Pt71, ql__law_two_right), (Pt72, ql__law_one_right), (Pt73, ql__law_is_floor_refused), (Pt74, ql__law_is_great_right)] : List (Addr × Str)), p.1 = Pt73 → p.2 = ql__law_is_floor_refused := fun p hp e => by
    simp only [List.mem_cons, List.not_mem_nil, or_false] at hp
    rcases hp with rfl | rfl | rfl | rfl
    · exact absurd (show Pt71 = Pt73 from e) (beq_eq_false_iff_ne.mp u71_73)
    · exact absurd (show Pt72 = Pt73 from e) (beq_eq_false_iff_ne.mp u72_73)
    · rfl
    · exact absurd (show Pt74 = Pt73 from e) (Ne.symm (beq_eq_false_iff_ne.mp u73_74))
  have tb__law_is_great_right : LamX.TabB base mg cc74 Pt74 := TB (cc74, Pt74, ql__law_is_great_right) (by simp)
  have inT__law_is_great_right : (Pt74, ql__law_is_great_right) ∈ ([(Pt71, ql__law_two_right), (Pt72, ql__law_one_right), (Pt73, ql__law_is_floor_refused), (Pt74, ql__law_is_great_right)] : List (Addr × Str)) := by simp
  have one__law_is_great_right : ∀ p ∈ ([(Pt71, ql__law_two_right), (Pt72, ql__law_one_right), (Pt73, ql__law_is_floor_refused), (Pt74, ql__law_is_great_right)] : List (Addr × Str)), p.1 = Pt74 → p.2 = ql__law_is_great_right := fun p hp e => by
    simp only [List.mem_cons, List.not_mem_nil, or_false] at hp
    rcases hp with rfl | rfl | rfl | rfl
    · exact absurd (show Pt71 = Pt74 from e) (beq_eq_false_iff_ne.mp u71_74)
    · exact absurd (show Pt72 = Pt74 from e) (beq_eq_false_iff_ne.mp u72_74)
    · exact absurd (show Pt73 = Pt74 from e) (beq_eq_false_iff_ne.mp u73_74)
    · rfl
  have O__law_draw := ok__law_draw (P := l.prog) (w := w) (base := base) (T := [(Pt71, ql__law_two_right), (Pt72, ql__law_one_right), (Pt73, ql__law_is_floor_refused), (Pt74, ql__law_is_great_right)]) bt (PySem.W.mg_of X G a61) F61
  have O_is_integer := ok_is_integer (P := l.prog) (w := w) (base := base) (T := [(Pt71, ql__law_two_right), (Pt72, ql__law_one_right), (Pt73, ql__law_is_floor_refused), (Pt74, ql__law_is_great_right)]) bt ct (PySem.W.mg_of X G a11) F11 
  have O_normal := ok_normal (P := l.prog) (w := w) (base := base) (T := [(Pt71, ql__law_two_right), (Pt72, ql__law_one_right), (Pt73, ql__law_is_floor_refused), (Pt74, ql__law_is_great_right)]) bt ct (PySem.W.mg_of X G a13) F13 
  have O_pair_sign := ok_pair_sign (P := l.prog) (w := w) (base := base) (T := [(Pt71, ql__law_two_right), (Pt72, ql__law_one_right), (Pt73, ql__law_is_floor_refused), (Pt74, ql__law_is_great_right)]) bt ct (PySem.W.mg_of X G a14) F14 
  have O_negative := ok_negative (P := l.prog) (w := w) (base := base) (T := [(Pt71, ql__law_two_right), (Pt72, ql__law_one_right), (Pt73, ql__law_is_floor_refused), (Pt74, ql__law_is_great_right)]) bt ct (PySem.W.mg_of X G a17) F17 
  have O_times_g := ok_times_g (P := l.prog) (w := w) (base := base) (T := [(Pt71, ql__law_two_right), (Pt72, ql__law_one_right), (Pt73, ql__law_is_floor_refused), (Pt74, ql__law_is_great_right)]) bt ct (PySem.W.mg_of X G a21) F21 
  have O_times_less := ok_times_less (P := l.prog) (w := w) (base := base) (T := [(Pt71, ql__law_two_right), (Pt72, ql__law_one_right), (Pt73, ql__law_is_floor_refused), (Pt74, ql__law_is_great_right)]) bt ct (PySem.W.mg_of X G a22) F22 
  have O_is_whole_number := ok_is_whole_number (P := l.prog) (w := w) (base := base) (T := [(Pt71, ql__law_two_right), (Pt72, ql__law_one_right), (Pt73, ql__law_is_floor_refused), (Pt74, ql__law_is_great_right)]) bt ct (PySem.W.mg_of X G a24) F24 
  have O_floor_integer := ok_floor_integer (P := l.prog) (w := w) (base := base) (T := [(Pt71, ql__law_two_right), (Pt72, ql__law_one_right), (Pt73, ql__law_is_floor_refused), (Pt74, ql__law_is_great_right)]) bt ct (PySem.W.mg_of X G a25) F25 
  have O_Floor__eq := ok_Floor__eq (P := l.prog) (w := w) (base := base) (T := [(Pt71, ql__law_two_right), (Pt72, ql__law_one_right), (Pt73, ql__law_is_floor_refused), (Pt74, ql__law_is_great_right)]) bt ct m_Floor q2_Floor q3_Floor (fun_mk (x := "__eq__") (st := (methS 56 1)) lE_Floor cE_Floor kE_Floor) 
  have O__law_same := ok__law_same (P := l.prog) (w := w) (base := base) (T := [(Pt71, ql__law_two_right), (Pt72, ql__law_one_right), (Pt73, ql__law_is_floor_refused), (Pt74, ql__law_is_great_right)]) bt ct (PySem.W.mg_of X G a64) F64 
  have O__law_is_golden := ok__law_is_golden (P := l.prog) (w := w) (base := base) (T := [(Pt71, ql__law_two_right), (Pt72, ql__law_one_right), (Pt73, ql__law_is_floor_refused), (Pt74, ql__law_is_great_right)]) bt ct (PySem.W.mg_of X G a68) F68 
  have O__law_refused := ok__law_refused (P := l.prog) (w := w) (base := base) (T := [(Pt71, ql__law_two_right), (Pt72, ql__law_one_right), (Pt73, ql__law_is_floor_refused), (Pt74, ql__law_is_great_right)]) bt ct (PySem.W.mg_of X G a70) F70 
  have O_is_number := ok_is_number (P := l.prog) (w := w) (base := base) (T := [(Pt71, ql__law_two_right), (Pt72, ql__law_one_right), (Pt73, ql__law_is_floor_refused), (Pt74, ql__law_is_great_right)]) bt ct (PySem.W.mg_of X G a12) F12 O_is_integer
  have O_sign_of := ok_sign_of (P := l.prog) (w := w) (base := base) (T := [(Pt71, ql__law_two_right), (Pt72, ql__law_one_right), (Pt73, ql__law_is_floor_refused), (Pt74, ql__law_is_great_right)]) bt ct (PySem.W.mg_of X G a15) F15 O_pair_sign
  have O_compared := ok_compared (P := l.prog) (w := w) (base := base) (T := [(Pt71, ql__law_two_right), (Pt72, ql__law_one_right), (Pt73, ql__law_is_floor_refused), (Pt74, ql__law_is_great_right)]) bt ct (PySem.W.mg_of X G a16) F16 O_pair_sign
  have O_added := ok_added (P := l.prog) (w := w) (base := base) (T := [(Pt71, ql__law_two_right), (Pt72, ql__law_one_right), (Pt73, ql__law_is_floor_refused), (Pt74, ql__law_is_great_right)]) bt ct (PySem.W.mg_of X G a18) F18 O_normal
  have O_multiplied := ok_multiplied (P := l.prog) (w := w) (base := base) (T := [(Pt71, ql__law_two_right), (Pt72, ql__law_one_right), (Pt73, ql__law_is_floor_refused), (Pt74, ql__law_is_great_right)]) bt ct (PySem.W.mg_of X G a20) F20 O_normal
  have O_ceiling_integer := ok_ceiling_integer (P := l.prog) (w := w) (base := base) (T := [(Pt71, ql__law_two_right), (Pt72, ql__law_one_right), (Pt73, ql__law_is_floor_refused), (Pt74, ql__law_is_great_right)]) bt ct (PySem.W.mg_of X G a26) F26 O_floor_integer O_negative
  have O_power := ok_power (P := l.prog) (w := w) (base := base) (T := [(Pt71, ql__law_two_right), (Pt72, ql__law_one_right), (Pt73, ql__law_is_floor_refused), (Pt74, ql__law_is_great_right)]) bt ct (PySem.W.mg_of X G a44) F44 O_is_integer O_times_g O_times_less
  have O_whole_directions := ok_whole_directions (P := l.prog) (w := w) (base := base) (T := [(Pt71, ql__law_two_right), (Pt72, ql__law_one_right), (Pt73, ql__law_is_floor_refused), (Pt74, ql__law_is_great_right)]) bt ct (PySem.W.mg_of X G a53) F53 O_is_whole_number
  have O__law_pick := ok__law_pick (P := l.prog) (w := w) (base := base) (T := [(Pt71, ql__law_two_right), (Pt72, ql__law_one_right), (Pt73, ql__law_is_floor_refused), (Pt74, ql__law_is_great_right)]) bt ct (PySem.W.mg_of X G a62) F62 O__law_draw
  have O__law_integer := ok__law_integer (P := l.prog) (w := w) (base := base) (T := [(Pt71, ql__law_two_right), (Pt72, ql__law_one_right), (Pt73, ql__law_is_floor_refused), (Pt74, ql__law_is_great_right)]) bt ct (PySem.W.mg_of X G a63) F63 O__law_draw
  have O_taken := ok_taken (P := l.prog) (w := w) (base := base) (T := [(Pt71, ql__law_two_right), (Pt72, ql__law_one_right), (Pt73, ql__law_is_floor_refused), (Pt74, ql__law_is_great_right)]) bt ct (PySem.W.mg_of X G a19) F19 O_added O_negative
  have O_divided := ok_divided (P := l.prog) (w := w) (base := base) (T := [(Pt71, ql__law_two_right), (Pt72, ql__law_one_right), (Pt73, ql__law_is_floor_refused), (Pt74, ql__law_is_great_right)]) bt ct (PySem.W.mg_of X G a23) F23 O_multiplied O_normal
  have O_need_numbers := ok_need_numbers (P := l.prog) (w := w) (base := base) (T := [(Pt71, ql__law_two_right), (Pt72, ql__law_one_right), (Pt73, ql__law_is_floor_refused), (Pt74, ql__law_is_great_right)]) bt ct (PySem.W.mg_of X G a30) F30 O_is_number
  have O_is_golden := ok_is_golden (P := l.prog) (w := w) (base := base) (T := [(Pt71, ql__law_two_right), (Pt72, ql__law_one_right), (Pt73, ql__law_is_floor_refused), (Pt74, ql__law_is_great_right)]) bt ct (PySem.W.mg_of X G a31) F31 O_is_number
  have O_sides_of := ok_sides_of (P := l.prog) (w := w) (base := base) (T := [(Pt71, ql__law_two_right), (Pt72, ql__law_one_right), (Pt73, ql__law_is_floor_refused), (Pt74, ql__law_is_great_right)]) bt ct (PySem.W.mg_of X G a54) F54 O_whole_directions
  have O__law_golden := ok__law_golden (P := l.prog) (w := w) (base := base) (T := [(Pt71, ql__law_two_right), (Pt72, ql__law_one_right), (Pt73, ql__law_is_floor_refused), (Pt74, ql__law_is_great_right)]) bt ct (PySem.W.mg_of X G a65) F65 O__law_draw O__law_integer
  have O__law_odd := ok__law_odd (P := l.prog) (w := w) (base := base) (T := [(Pt71, ql__law_two_right), (Pt72, ql__law_one_right), (Pt73, ql__law_is_floor_refused), (Pt74, ql__law_is_great_right)]) bt ct (PySem.W.mg_of X G a66) F66 O__law_pick
  have O_reduced := ok_reduced (P := l.prog) (w := w) (base := base) (T := [(Pt71, ql__law_two_right), (Pt72, ql__law_one_right), (Pt73, ql__law_is_floor_refused), (Pt74, ql__law_is_great_right)]) bt ct (PySem.W.mg_of X G a32) F32 O_need_numbers O_normal
  have O_plus := ok_plus (P := l.prog) (w := w) (base := base) (T := [(Pt71, ql__law_two_right), (Pt72, ql__law_one_right), (Pt73, ql__law_is_floor_refused), (Pt74, ql__law_is_great_right)]) bt ct (PySem.W.mg_of X G a33) F33 O_need_numbers O_added
  have O_minus := ok_minus (P := l.prog) (w := w) (base := base) (T := [(Pt71, ql__law_two_right), (Pt72, ql__law_one_right), (Pt73, ql__law_is_floor_refused), (Pt74, ql__law_is_great_right)]) bt ct (PySem.W.mg_of X G a34) F34 O_need_numbers O_taken
  have O_times := ok_times (P := l.prog) (w := w) (base := base) (T := [(Pt71, ql__law_two_right), (Pt72, ql__law_one_right), (Pt73, ql__law_is_floor_refused), (Pt74, ql__law_is_great_right)]) bt ct (PySem.W.mg_of X G a35) F35 O_need_numbers O_multiplied
  have O_quotient := ok_quotient (P := l.prog) (w := w) (base := base) (T := [(Pt71, ql__law_two_right), (Pt72, ql__law_one_right), (Pt73, ql__law_is_floor_refused), (Pt74, ql__law_is_great_right)]) bt ct (PySem.W.mg_of X G a36) F36 O_need_numbers O_divided
  have O_sign := ok_sign (P := l.prog) (w := w) (base := base) (T := [(Pt71, ql__law_two_right), (Pt72, ql__law_one_right), (Pt73, ql__law_is_floor_refused), (Pt74, ql__law_is_great_right)]) bt ct (PySem.W.mg_of X G a37) F37 O_need_numbers O_sign_of
  have O_is_below := ok_is_below (P := l.prog) (w := w) (base := base) (T := [(Pt71, ql__law_two_right), (Pt72, ql__law_one_right), (Pt73, ql__law_is_floor_refused), (Pt74, ql__law_is_great_right)]) bt ct (PySem.W.mg_of X G a38) F38 O_need_numbers O_compared
  have O_are_equal := ok_are_equal (P := l.prog) (w := w) (base := base) (T := [(Pt71, ql__law_two_right), (Pt72, ql__law_one_right), (Pt73, ql__law_is_floor_refused), (Pt74, ql__law_is_great_right)]) bt ct (PySem.W.mg_of X G a39) F39 O_need_numbers O_compared
  have O_integer_below := ok_integer_below (P := l.prog) (w := w) (base := base) (T := [(Pt71, ql__law_two_right), (Pt72, ql__law_one_right), (Pt73, ql__law_is_floor_refused), (Pt74, ql__law_is_great_right)]) bt ct (PySem.W.mg_of X G a40) F40 O_need_numbers O_floor_integer
  have O_integer_above := ok_integer_above (P := l.prog) (w := w) (base := base) (T := [(Pt71, ql__law_two_right), (Pt72, ql__law_one_right), (Pt73, ql__law_is_floor_refused), (Pt74, ql__law_is_great_right)]) bt ct (PySem.W.mg_of X G a41) F41 O_need_numbers O_ceiling_integer
  have O_is_whole := ok_is_whole (P := l.prog) (w := w) (base := base) (T := [(Pt71, ql__law_two_right), (Pt72, ql__law_one_right), (Pt73, ql__law_is_floor_refused), (Pt74, ql__law_is_great_right)]) bt ct (PySem.W.mg_of X G a42) F42 O_need_numbers O_is_whole_number
  have O_conjugate := ok_conjugate (P := l.prog) (w := w) (base := base) (T := [(Pt71, ql__law_two_right), (Pt72, ql__law_one_right), (Pt73, ql__law_is_floor_refused), (Pt74, ql__law_is_great_right)]) bt ct (PySem.W.mg_of X G a43) F43 O_need_numbers O_normal
  have O_keys_from := ok_keys_from (P := l.prog) (w := w) (base := base) (T := [(Pt71, ql__law_two_right), (Pt72, ql__law_one_right), (Pt73, ql__law_is_floor_refused), (Pt74, ql__law_is_great_right)]) bt ct (PySem.W.mg_of X G a52) F52 O_normal O_taken O_negative O_times_g
  have O_is_side := ok_is_side (P := l.prog) (w := w) (base := base) (T := [(Pt71, ql__law_two_right), (Pt72, ql__law_one_right), (Pt73, ql__law_is_floor_refused), (Pt74, ql__law_is_great_right)]) bt ct (PySem.W.mg_of X G a55) F55 O_sides_of O_is_integer
  have O_number_text := ok_number_text (P := l.prog) (w := w) (base := base) (T := [(Pt71, ql__law_two_right), (Pt72, ql__law_one_right), (Pt73, ql__law_is_floor_refused), (Pt74, ql__law_is_great_right)]) bt ct (PySem.W.mg_of X G a45) F45 O_reduced
  have FI_Floor := fund_mk (K := K) (dvs := [(.ref Ty18)]) lI_Floor cI_Floor kI_Floor (by simp) ddI_Floor rfl (.cons (rfl) .nil)
  have O_Floor := ok_Floor (P := l.prog) (w := w) (base := base) (T := [(Pt71, ql__law_two_right), (Pt72, ql__law_one_right), (Pt73, ql__law_is_floor_refused), (Pt74, ql__law_is_great_right)]) bt ct m_Floor ⟨m1_Floor, m2_Floor, m3_Floor, m4_Floor⟩ FI_Floor (by simp) (fun F => (.cons (rep_ktup (K := ⟨K, mg⟩) Fy18 (show (5 : Nat) ≤ sizeLine by decide) (.cons (relv_int 0 y19) (.cons (relv_int 0 y20) (.cons (relv_int 0 y21) (.cons (relv_int 0 y22) (.cons (relv_int 0 y23) .nil))))) (fun F => (.cons (.int _) (.cons (.int _) (.cons (.int _) (.cons (.int _) (.cons (.int _) .nil)))))) F) .nil)) O_keys_from O_is_side O_is_number
  have O__law_bent := ok__law_bent (P := l.prog) (w := w) (base := base) (T := [(Pt71, ql__law_two_right), (Pt72, ql__law_one_right), (Pt73, ql__law_is_floor_refused), (Pt74, ql__law_is_great_right)]) bt ct (PySem.W.mg_of X G a67) F67 O__law_draw O__law_odd
  have O__law_value := ok__law_value (P := l.prog) (w := w) (base := base) (T := [(Pt71, ql__law_two_right), (Pt72, ql__law_one_right), (Pt73, ql__law_is_floor_refused), (Pt74, ql__law_is_great_right)]) bt ct (PySem.W.mg_of X G a69) F69 O__law_draw O__law_golden O__law_odd O__law_bent
  have O__law_two_right := ok__law_two_right (P := l.prog) (w := w) (base := base) (T := [(Pt71, ql__law_two_right), (Pt72, ql__law_one_right), (Pt73, ql__law_is_floor_refused), (Pt74, ql__law_is_great_right)]) tb__law_two_right inT__law_two_right one__law_two_right bt ct (PySem.W.mg_of X G a71) F71 O__law_is_golden O__law_refused O__law_same O_plus O_minus O_times O_is_below O_are_equal O_quotient
  have O__law_is_floor_refused := ok__law_is_floor_refused (P := l.prog) (w := w) (base := base) (T := [(Pt71, ql__law_two_right), (Pt72, ql__law_one_right), (Pt73, ql__law_is_floor_refused), (Pt74, ql__law_is_great_right)]) tb__law_is_floor_refused inT__law_is_floor_refused one__law_is_floor_refused bt ct (PySem.W.mg_of X G a73) F73 O__law_same O__law_refused O_is_golden O_plus O_quotient O_sign O_is_below O_Floor__eq
  have O__law_is_great_right := ok__law_is_great_right (P := l.prog) (w := w) (base := base) (T := [(Pt71, ql__law_two_right), (Pt72, ql__law_one_right), (Pt73, ql__law_is_floor_refused), (Pt74, ql__law_is_great_right)]) tb__law_is_great_right inT__law_is_great_right one__law_is_great_right bt ct (PySem.W.mg_of X G a74) F74 O_times O__law_refused O_is_golden O__law_draw O_plus
  have O__law_one_right := ok__law_one_right (P := l.prog) (w := w) (base := base) (T := [(Pt71, ql__law_two_right), (Pt72, ql__law_one_right), (Pt73, ql__law_is_floor_refused), (Pt74, ql__law_is_great_right)]) tb__law_one_right inT__law_one_right one__law_one_right bt ct (PySem.W.mg_of X G a72) F72 O__law_is_golden O__law_refused O__law_same O_reduced O_sign O_integer_below O_integer_above O_is_whole O_conjugate O_number_text O_is_golden
  exact ok_law bt ct (PySem.W.mg_of X G a60) F60 F75 O_power O__law_is_floor_refused O__law_is_great_right O_Floor O__law_value O__law_draw O__law_one_right O__law_two_right O__law_same O__law_integer
end K10

open PySem PySem.W PyProof.Rows in
set_option maxRecDepth 100000 in
set_option maxHeartbeats 0 in
theorem PySem.Challenge.cw_nevertwice_k10_any_value_as_a_golden_num_holds : PySem.Challenge.rw_nevertwice_k10_any_value_as_a_golden_num.Holds := by
  w_on; o_law; k_head; (case hw => w_witness2)
  k_fill
  refine ND.walkGT (k := 9) (x := "_law_script") (l := PySem.Challenge.rw_nevertwice_k10_any_value_as_a_golden_num) rfl rfl ⟨rfl, by decide, by decide⟩ (fun w h Y => PySem.W.km_in_of Y) ?F
  case F =>
    intro w mg mb fa h Y KX G hmg tabs
    refine' K10.all_ok KX G hmg ?a11 ?l11 ?c11 ?k11 ?a12 ?l12 ?c12 ?k12 ?a13 ?l13 ?c13 ?k13 ?a14 ?l14 ?c14 ?k14 ?a15 ?l15 ?c15 ?k15 ?a16 ?l16 ?c16 ?k16 ?a17 ?l17 ?c17 ?k17 ?a18 ?l18 ?c18 ?k18 ?a19 ?l19 ?c19 ?k19 ?a20 ?l20 ?c20 ?k20 ?a21 ?l21 ?c21 ?k21 ?a22 ?l22 ?c22 ?k22 ?a23 ?l23 ?c23 ?k23 ?a24 ?l24 ?c24 ?k24 ?a25 ?l25 ?c25 ?k25 ?a26 ?l26 ?c26 ?k26 ?a30 ?l30 ?c30 ?k30 ?a31 ?l31 ?c31 ?k31 ?a32 ?l32 ?c32 ?k32 ?a33 ?l33 ?c33 ?k33 ?a34 ?l34 ?c34 ?k34 ?a35 ?l35 ?c35 ?k35 ?a36 ?l36 ?c36 ?k36 ?a37 ?l37 ?c37 ?k37 ?a38 ?l38 ?c38 ?k38 ?a39 ?l39 ?c39 ?k39 ?a40 ?l40 ?c40 ?k40 ?a41 ?l41 ?c41 ?k41 ?a42 ?l42 ?c42 ?k42 ?a43 ?l43 ?c43 ?k43 ?a44 ?l44 ?c44 ?k44 ?a45 ?l45 ?c45 ?k45 ?a52 ?l52 ?c52 ?k52 ?a53 ?l53 ?c53 ?k53 ?a54 ?l54 ?c54 ?k54 ?a55 ?l55 ?c55 ?k55 ?a60 ?l60 ?c60 ?k60 ?a61 ?l61 ?c61 ?k61 ?a62 ?l62 ?c62 ?k62 ?a63 ?l63 ?c63 ?k63 ?a64 ?l64 ?c64 ?k64 ?a65 ?l65 ?c65 ?k65 ?a66 ?l66 ?c66 ?k66 ?a67 ?l67 ?c67 ?k67 ?a68 ?l68 ?c68 ?k68 ?a69 ?l69 ?c69 ?k69 ?a70 ?l70 ?c70 ?k70 ?a71 ?l71 ?c71 ?k71 ?a72 ?l72 ?c72 ?k72 ?a73 ?l73 ?c73 ?k73 ?a74 ?l74 ?c74 ?k74 ?a75 ?l75 ?c75 ?k75 ?z_abs ?z_all ?z_bool ?z_int ?z_isinstance ?z_len ?z_list ?z_max ?z_range ?z_repr ?z_sorted ?z_str ?z_tuple ?z_gcd ?z_isqrt ?e1_BadCount ?e4_BadCount ?e5_BadCount ?e1_BadNumber ?e4_BadNumber ?e5_BadNumber ?q1_BadNumber ?x1_BadNumber ?x2_BadNumber ?x3_BadNumber ?x4_BadNumber ?x5_BadNumber ?x6_BadNumber ?x7_BadNumber ?e3_BadNumber ?x9_BadNumber ?y1_BadNumber ?y2_BadNumber ?y3_BadNumber ?g1_BadNumber ?g2_BadNumber ?g3_BadNumber ?g4_BadNumber ?e1_BadPower ?e4_BadPower ?e5_BadPower ?x1_BadPower ?x2_BadPower ?x3_BadPower ?x4_BadPower ?x5_BadPower ?x6_BadPower ?x7_BadPower ?e3_BadPower ?x9_BadPower ?y1_BadPower ?y2_BadPower ?y3_BadPower ?g1_BadPower ?g2_BadPower ?g3_BadPower ?g4_BadPower ?e1_BadSide ?e4_BadSide ?e5_BadSide ?x1_BadSide ?x2_BadSide ?x3_BadSide ?x4_BadSide ?x5_BadSide ?x6_BadSide ?x7_BadSide ?e3_BadSide ?x9_BadSide ?y1_BadSide ?y2_BadSide ?y3_BadSide ?g1_BadSide ?g2_BadSide ?g3_BadSide ?g4_BadSide ?e1_BadText ?e4_BadText ?e5_BadText ?e1_DividedByZero ?e4_DividedByZero ?e5_DividedByZero ?e2_DividedByZero ?e3_DividedByZero ?x9_DividedByZero ?g1_DividedByZero ?g2_DividedByZero ?g3_DividedByZero ?g4_DividedByZero ?q1_DividedByZero ?e1_FloorError ?e4_FloorError ?e5_FloorError ?q1_FloorError ?gn ?gt ?r_BadNumber_BadNumber ?r_BadNumber_DividedByZero ?r_BadNumber_FloorError ?r_BadPower_BadNumber ?r_BadPower_DividedByZero ?r_BadPower_FloorError ?r_BadSide_BadNumber ?r_BadSide_DividedByZero ?r_BadSide_FloorError ?r_DividedByZero_BadNumber ?r_DividedByZero_DividedByZero ?r_DividedByZero_FloorError ?s_BadNumber_BadCount ?s_BadNumber_BadPower ?s_BadNumber_BadText ?s_BadNumber_DividedByZero ?s_BadNumber_FloorError ?s_BadPower_BadCount ?s_BadPower_BadPower ?s_BadPower_BadText ?s_BadPower_DividedByZero ?s_BadPower_FloorError ?s_BadSide_BadCount ?s_BadSide_BadPower ?s_BadSide_BadText ?s_BadSide_DividedByZero ?s_BadSide_FloorError ?s_DividedByZero_BadCount ?s_DividedByZero_BadPower ?s_DividedByZero_BadText ?s_DividedByZero_DividedByZero ?s_DividedByZero_FloorError ?d1 ?d2 ?G_FIRST_SIDE ?Fy1 ?G_NO_SIDE ?Fy7 ?G_ONE ?Fy13 ?G_POWER_MOST ?o1_Floor ?o2_Floor ?o3_Floor ?o4_Floor ?o5_Floor ?o6_Floor ?o7_Floor ?of_Floor_all_keys ?of_Floor_side ?ob_Floor_NoneType ?ot_Floor_NoneType ?os_Floor_NoneType ?ob_Floor_bool ?ot_Floor_bool ?os_Floor_bool ?ob_Floor_int ?ot_Floor_int ?os_Floor_int ?ob_Floor_str ?ot_Floor_str ?os_Floor_str ?ob_Floor_tuple ?ot_Floor_tuple ?os_Floor_tuple ?ob_Floor_list ?ot_Floor_list ?os_Floor_list ?ob_Floor_dict ?ot_Floor_dict ?os_Floor_dict ?oo_Floor ?m1_Floor ?m2_Floor ?m3_Floor ?m4_Floor ?lI_Floor ?cI_Floor ?kI_Floor ?ddI_Floor ?Fy18 ?q2_Floor ?q3_Floor ?lE_Floor ?cE_Floor ?kE_Floor ?ta71 ?tb71 ?n71 ?th71 ?ta72 ?tb72 ?n72 ?th72 ?ta73 ?tb73 ?n73 ?th73 ?ta74 ?tb74 ?n74 ?th74 ?u71_72 ?u71_73 ?u71_74 ?u72_73 ?u72_74 ?u73_74
    (case a11 => k_is)
    (case l11 => k_is)
    (case c11 => k_is)
    (case k11 => k_is)
    (case a12 => k_is)
    (case l12 => k_is)
    (case c12 => k_is)
    (case k12 => k_is)
    (case a13 => k_is)
    (case l13 => k_is)
    (case c13 => k_is)
    (case k13 => k_is)
    (case a14 => k_is)
    (case l14 => k_is)
    (case c14 => k_is)
    (case k14 => k_is)
    (case a15 => k_is)
    (case l15 => k_is)
    (case c15 => k_is)
    (case k15 => k_is)
    (case a16 => k_is)
    (case l16 => k_is)
    (case c16 => k_is)
    (case k16 => k_is)
    (case a17 => k_is)
    (case l17 => k_is)
    (case c17 => k_is)
    (case k17 => k_is)
    (case a18 => k_is)
    (case l18 => k_is)
    (case c18 => k_is)
    (case k18 => k_is)
    (case a19 => k_is)
    (case l19 => k_is)
    (case c19 => k_is)
    (case k19 => k_is)
    (case a20 => k_is)
    (case l20 => k_is)
    (case c20 => k_is)
    (case k20 => k_is)
    (case a21 => k_is)
    (case l21 => k_is)
    (case c21 => k_is)
    (case k21 => k_is)
    (case a22 => k_is)
    (case l22 => k_is)
    (case c22 => k_is)
    (case k22 => k_is)
    (case a23 => k_is)
    (case l23 => k_is)
    (case c23 => k_is)
    (case k23 => k_is)
    (case a24 => k_is)
    (case l24 => k_is)
    (case c24 => k_is)
    (case k24 => k_is)
    (case a25 => k_is)
    (case l25 => k_is)
    (case c25 => k_is)
    (case k25 => k_is)
    (case a26 => k_is)
    (case l26 => k_is)
    (case c26 => k_is)
    (case k26 => k_is)
    (case a30 => k_is)
    (case l30 => k_is)
    (case c30 => k_is)
    (case k30 => k_is)
    (case a31 => k_is)
    (case l31 => k_is)
    (case c31 => k_is)
    (case k31 => k_is)
    (case a32 => k_is)
    (case l32 => k_is)
    (case c32 => k_is)
    (case k32 => k_is)
    (case a33 => k_is)
    (case l33 => k_is)
    (case c33 => k_is)
    (case k33 => k_is)
    (case a34 => k_is)
    (case l34 => k_is)
    (case c34 => k_is)
    (case k34 => k_is)
    (case a35 => k_is)
    (case l35 => k_is)
    (case c35 => k_is)
    (case k35 => k_is)
    (case a36 => k_is)
    (case l36 => k_is)
    (case c36 => k_is)
    (case k36 => k_is)
    (case a37 => k_is)
    (case l37 => k_is)
    (case c37 => k_is)
    (case k37 => k_is)
    (case a38 => k_is)
    (case l38 => k_is)
    (case c38 => k_is)
    (case k38 => k_is)
    (case a39 => k_is)
    (case l39 => k_is)
    (case c39 => k_is)
    (case k39 => k_is)
    (case a40 => k_is)
    (case l40 => k_is)
    (case c40 => k_is)
    (case k40 => k_is)
    (case a41 => k_is)
    (case l41 => k_is)
    (case c41 => k_is)
    (case k41 => k_is)
    (case a42 => k_is)
    (case l42 => k_is)
    (case c42 => k_is)
    (case k42 => k_is)
    (case a43 => k_is)
    (case l43 => k_is)
    (case c43 => k_is)
    (case k43 => k_is)
    (case a44 => k_is)
    (case l44 => k_is)
    (case c44 => k_is)
    (case k44 => k_is)
    (case a45 => k_is)
    (case l45 => k_is)
    (case c45 => k_is)
    (case k45 => k_is)
    (case a52 => k_is)
    (case l52 => k_is)
    (case c52 => k_is)
    (case k52 => k_is)
    (case a53 => k_is)
    (case l53 => k_is)
    (case c53 => k_is)
    (case k53 => k_is)
    (case a54 => k_is)
    (case l54 => k_is)
    (case c54 => k_is)
    (case k54 => k_is)
    (case a55 => k_is)
    (case l55 => k_is)
    (case c55 => k_is)
    (case k55 => k_is)
    (case a60 => k_is)
    (case l60 => k_is)
    (case c60 => k_is)
    (case k60 => k_is)
    (case a61 => k_is)
    (case l61 => k_is)
    (case c61 => k_is)
    (case k61 => k_is)
    (case a62 => k_is)
    (case l62 => k_is)
    (case c62 => k_is)
    (case k62 => k_is)
    (case a63 => k_is)
    (case l63 => k_is)
    (case c63 => k_is)
    (case k63 => k_is)
    (case a64 => k_is)
    (case l64 => k_is)
    (case c64 => k_is)
    (case k64 => k_is)
    (case a65 => k_is)
    (case l65 => k_is)
    (case c65 => k_is)
    (case k65 => k_is)
    (case a66 => k_is)
    (case l66 => k_is)
    (case c66 => k_is)
    (case k66 => k_is)
    (case a67 => k_is)
    (case l67 => k_is)
    (case c67 => k_is)
    (case k67 => k_is)
    (case a68 => k_is)
    (case l68 => k_is)
    (case c68 => k_is)
    (case k68 => k_is)
    (case a69 => k_is)
    (case l69 => k_is)
    (case c69 => k_is)
    (case k69 => k_is)
    (case a70 => k_is)
    (case l70 => k_is)
    (case c70 => k_is)
    (case k70 => k_is)
    (case a71 => k_is)
    (case l71 => k_is)
    (case c71 => k_is)
    (case k71 => k_is)
    (case a72 => k_is)
    (case l72 => k_is)
    (case c72 => k_is)
    (case k72 => k_is)
    (case a73 => k_is)
    (case l73 => k_is)
    (case c73 => k_is)
    (case k73 => k_is)
    (case a74 => k_is)
    (case l74 => k_is)
    (case c74 => k_is)
    (case k74 => k_is)
    (case a75 => k_is)
    (case l75 => k_is)
    (case c75 => k_is)
    (case k75 => k_is)
    (case z_abs => k_is)
    (case z_all => k_is)
    (case z_bool => k_is)
    (case z_int => k_is)
    (case z_isinstance => k_is)
    (case z_len => k_is)
    (case z_list => k_is)
    (case z_max => k_is)
    (case z_range => k_is)
    (case z_repr => k_is)
    (case z_sorted => k_is)
    (case z_str => k_is)
    (case z_tuple => k_is)
    (case z_gcd => k_is)
    (case z_isqrt => k_is)
    (case e1_BadCount => k_is)
    (case e4_BadCount => k_is)
    (case e5_BadCount => k_is)
    (case e1_BadNumber => k_is)
    (case e4_BadNumber => k_is)
    (case e5_BadNumber => k_is)
    (case q1_BadNumber => first | k_is | kernel_rfl)
    (case x1_BadNumber => first | k_exc | k_is | kernel_rfl)
    (case x2_BadNumber => first | k_exc | k_is | kernel_rfl)
    (case x3_BadNumber => k_is)
    (case x4_BadNumber => k_is)
    (case x5_BadNumber => k_is)
    (case x6_BadNumber => k_is)
    (case x7_BadNumber => k_is)
    (case e3_BadNumber => k_is)
    (case x9_BadNumber => k_is)
    (case y1_BadNumber => k_is)
    (case y2_BadNumber => k_is)
    (case y3_BadNumber => k_is)
    (case g1_BadNumber => k_is)
    (case g2_BadNumber => k_is)
    (case g3_BadNumber => k_is)
    (case g4_BadNumber => k_is)
    (case e1_BadPower => k_is)
    (case e4_BadPower => k_is)
    (case e5_BadPower => k_is)
    (case x1_BadPower => first | k_exc | k_is | kernel_rfl)
    (case x2_BadPower => first | k_exc | k_is | kernel_rfl)
    (case x3_BadPower => k_is)
    (case x4_BadPower => k_is)
    (case x5_BadPower => k_is)
    (case x6_BadPower => k_is)
    (case x7_BadPower => k_is)
    (case e3_BadPower => k_is)
    (case x9_BadPower => k_is)
    (case y1_BadPower => k_is)
    (case y2_BadPower => k_is)
    (case y3_BadPower => k_is)
    (case g1_BadPower => k_is)
    (case g2_BadPower => k_is)
    (case g3_BadPower => k_is)
    (case g4_BadPower => k_is)
    (case e1_BadSide => k_is)
    (case e4_BadSide => k_is)
    (case e5_BadSide => k_is)
    (case x1_BadSide => first | k_exc | k_is | kernel_rfl)
    (case x2_BadSide => first | k_exc | k_is | kernel_rfl)
    (case x3_BadSide => k_is)
    (case x4_BadSide => k_is)
    (case x5_BadSide => k_is)
    (case x6_BadSide => k_is)
    (case x7_BadSide => k_is)
    (case e3_BadSide => k_is)
    (case x9_BadSide => k_is)
    (case y1_BadSide => k_is)
    (case y2_BadSide => k_is)
    (case y3_BadSide => k_is)
    (case g1_BadSide => k_is)
    (case g2_BadSide => k_is)
    (case g3_BadSide => k_is)
    (case g4_BadSide => k_is)
    (case e1_BadText => k_is)
    (case e4_BadText => k_is)
    (case e5_BadText => k_is)
    (case e1_DividedByZero => k_is)
    (case e4_DividedByZero => k_is)
    (case e5_DividedByZero => k_is)
    (case e2_DividedByZero => k_exc)
    (case e3_DividedByZero => k_is)
    (case x9_DividedByZero => k_is)
    (case g1_DividedByZero => k_is)
    (case g2_DividedByZero => k_is)
    (case g3_DividedByZero => k_is)
    (case g4_DividedByZero => k_is)
    (case q1_DividedByZero => first | k_is | kernel_rfl)
    (case e1_FloorError => k_is)
    (case e4_FloorError => k_is)
    (case e5_FloorError => k_is)
    (case q1_FloorError => first | k_is | kernel_rfl)
    (case gn => k_is)
    (case gt => k_is)
    (case r_BadNumber_BadNumber => k_is)
    (case r_BadNumber_DividedByZero => k_is)
    (case r_BadNumber_FloorError => k_is)
    (case r_BadPower_BadNumber => k_is)
    (case r_BadPower_DividedByZero => k_is)
    (case r_BadPower_FloorError => k_is)
    (case r_BadSide_BadNumber => k_is)
    (case r_BadSide_DividedByZero => k_is)
    (case r_BadSide_FloorError => k_is)
    (case r_DividedByZero_BadNumber => k_is)
    (case r_DividedByZero_DividedByZero => k_is)
    (case r_DividedByZero_FloorError => k_is)
    (case s_BadNumber_BadCount => kit_is)
    (case s_BadNumber_BadPower => kit_is)
    (case s_BadNumber_BadText => kit_is)
    (case s_BadNumber_DividedByZero => kit_is)
    (case s_BadNumber_FloorError => kit_is)
    (case s_BadPower_BadCount => kit_is)
    (case s_BadPower_BadPower => kit_is)
    (case s_BadPower_BadText => kit_is)
    (case s_BadPower_DividedByZero => kit_is)
    (case s_BadPower_FloorError => kit_is)
    (case s_BadSide_BadCount => kit_is)
    (case s_BadSide_BadPower => kit_is)
    (case s_BadSide_BadText => kit_is)
    (case s_BadSide_DividedByZero => kit_is)
    (case s_BadSide_FloorError => kit_is)
    (case s_DividedByZero_BadCount => kit_is)
    (case s_DividedByZero_BadPower => kit_is)
    (case s_DividedByZero_BadText => kit_is)
    (case s_DividedByZero_DividedByZero => kit_is)
    (case s_DividedByZero_FloorError => kit_is)
    (case d1 => kernel_rfl)
    (case d2 => k_is)
    (case G_FIRST_SIDE => k_is)
    (case Fy1 => k_is)
    (case G_NO_SIDE => k_is)
    (case Fy7 => k_is)
    (case G_ONE => k_is)
    (case Fy13 => k_is)
    (case G_POWER_MOST => k_is)
    (case o1_Floor => k_is)
    (case o2_Floor => first | k_is | kernel_rfl)
    (case o3_Floor => first | k_is | kernel_rfl)
    (case o4_Floor => first | k_is | kernel_rfl)
    (case o5_Floor => k_is)
    (case o6_Floor => k_is)
    (case o7_Floor => k_is)
    (case of_Floor_all_keys => k_is)
    (case of_Floor_side => k_is)
    (case ob_Floor_NoneType => kit_is)
    (case ot_Floor_NoneType => kit_is)
    (case os_Floor_NoneType => k_is)
    (case ob_Floor_bool => kit_is)
    (case ot_Floor_bool => kit_is)
    (case os_Floor_bool => k_is)
    (case ob_Floor_int => kit_is)
    (case ot_Floor_int => kit_is)
    (case os_Floor_int => k_is)
    (case ob_Floor_str => kit_is)
    (case ot_Floor_str => kit_is)
    (case os_Floor_str => k_is)
    (case ob_Floor_tuple => kit_is)
    (case ot_Floor_tuple => kit_is)
    (case os_Floor_tuple => k_is)
    (case ob_Floor_list => kit_is)
    (case ot_Floor_list => kit_is)
    (case os_Floor_list => k_is)
    (case ob_Floor_dict => kit_is)
    (case ot_Floor_dict => kit_is)
    (case os_Floor_dict => k_is)
    (case oo_Floor => kit_is)
    (case m1_Floor => first | k_is | kernel_rfl)
    (case m2_Floor => k_is)
    (case m3_Floor => first | k_is | kernel_rfl)
    (case m4_Floor => k_is)
    (case lI_Floor => k_is)
    (case cI_Floor => k_is)
    (case kI_Floor => k_is)
    (case ddI_Floor => k_is)
    (case Fy18 => k_is)
    (case q2_Floor => k_is)
    (case q3_Floor => first | k_is | kernel_rfl)
    (case lE_Floor => k_is)
    (case cE_Floor => k_is)
    (case kE_Floor => k_is)
    (case ta71 => k_is)
    (case tb71 => rfl)
    (case n71 => first | kernel_rfl | rfl)
    (case th71 => exact fun c Pt => tabs _ "_law_two_right" c Pt rfl)
    (case ta72 => k_is)
    (case tb72 => rfl)
    (case n72 => first | kernel_rfl | rfl)
    (case th72 => exact fun c Pt => tabs _ "_law_one_right" c Pt rfl)
    (case ta73 => k_is)
    (case tb73 => rfl)
    (case n73 => first | kernel_rfl | rfl)
    (case th73 => exact fun c Pt => tabs _ "_law_is_floor_refused" c Pt rfl)
    (case ta74 => k_is)
    (case tb74 => rfl)
    (case n74 => first | kernel_rfl | rfl)
    (case th74 => exact fun c Pt => tabs _ "_law_is_great_right" c Pt rfl)
    (case u71_72 => first | rfl | kernel_rfl)
    (case u71_73 => first | rfl | kernel_rfl)
    (case u71_74 => first | rfl | kernel_rfl)
    (case u72_73 => first | rfl | kernel_rfl)
    (case u72_74 => first | rfl | kernel_rfl)
    (case u73_74 => first | rfl | kernel_rfl)
