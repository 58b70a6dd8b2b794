import PyProof.Rows.All
import Wide.All
import OpenK.AllK
import Wide.FinOn
import HandS.ForMost
import HandS.ForExc
import HandS.Lambda
import HandS.Wide
import HandS.Flow
import HandS.TupAny
import HandS.TupLe
import HandS.Style
import HandS.Deep
import HandS.Codes
import HandS.Zip
import HandS.Gcd
import HandS.IsInst
import HandS.Text
import HandS.Conv
import HandS.WordsDict
import HandS.RaiseMore
import KE.KMathG
import PyProof.StrBlock2
import HandS.WordsExc
import HandS.EndBits
import HandS.Dict
import HandS.Small
import HandS.Exc
import KE.KExcInit
import HandS.TryMany
import HandS.ExcIs
import PyProof.Rows.SumAny
import PyProof.WalksMore
import PyProof.Rows.StrOr
import KE.KIntText
import PyProof.ReprLen
import HandS.EndTab
import KE.KRevSl
import KE.KNest
import HandS.Defaults
import HandS.MakeKw
import HandS.MakeKwOnly
import HandS.Sort
import HandS.SortOrd
import HandS.SortRule
import KE.DataEq
import PyProof.EqKinds
import PyProof.FactsAll.dict
import PyProof.P3Eq
import PyProof.Rows.ReprOcc
import PyProof.Rows.StrIntSpec
import PySem.Challenge.RW_nevertwice_k16_whole_all_tiles_that_coul
set_option Elab.async false
set_option maxRecDepth 100000
set_option maxHeartbeats 2000000
/-! ND1: data by value over HandS's abstract heap: D, Rep, the growth of a heap, the state of a body, expressions' and statements' judgements -/
namespace ND
open PySem PySem.Spec PyProof.Rows L2

/-- a value by value -/
inductive D where
  | non | bl (b : Bool) | int (i : Int) | str (x : Str)
  | tup (xs : List D) | lst (xs : List D)
  | dic (kvs : List (Key × D))
  | obj (C : Str) (fs : List (Str × D))
  | opq (v : V)

/-- the written part, the module's names -/
structure Kn where
  K : PySem.W.Frag
  mg : Str → Option Value
mutual
/-- v is d, by the frozen part F -/
inductive Rep (K : Kn) (F : Hp) : V → D → Prop
  | non : Rep K F .non .non
  | bl (b : Bool) : Rep K F (.bl b) (.bl b)
  | int (i : Int) : Rep K F (.int i) (.int i)
  | str (x : Str) : Rep K F (.str x) (.str x)
  | tup {a : Addr} {xs : List V} {ds : List D} : SqT K.K F a xs → Reps K F xs ds → Rep K F (.ref a) (.tup ds)
  | lst {a : Addr} {xs : List V} {ds : List D} : F a = some (.lst xs) → Reps K F xs ds → Rep K F (.ref a) (.lst ds)
  | dic {a : Addr} {kvs : List (Key × V)} {ds : List (Key × D)} : F a = some (.dK kvs) → RepKs K F kvs ds → Rep K F (.ref a) (.dic ds)
  | obj {a C dx : Addr} {n : Str} {fs : List (Str × V)} {ds : List (Str × D)} : K.mg n = some (.ref C) → F a = some (.ins C dx fs) → RepFs K F fs ds → Rep K F (.ref a) (.obj n ds)
  | opq (v : V) : Rep K F v (.opq v)
inductive Reps (K : Kn) (F : Hp) : List V → List D → Prop
  | nil : Reps K F [] []
  | cons {v : V} {vs : List V} {d : D} {ds : List D} : Rep K F v d → Reps K F vs ds → Reps K F (v :: vs) (d :: ds)
inductive RepKs (K : Kn) (F : Hp) : List (Key × V) → List (Key × D) → Prop
  | nil : RepKs K F [] []
  | cons {k : Key} {v : V} {vs : List (Key × V)} {d : D} {ds : List (Key × D)} : Rep K F v d → RepKs K F vs ds → RepKs K F ((k, v) :: vs) ((k, d) :: ds)
inductive RepFs (K : Kn) (F : Hp) : List (Str × V) → List (Str × D) → Prop
  | nil : RepFs K F [] []
  | cons {k : Str} {v : V} {vs : List (Str × V)} {d : D} {ds : List (Str × D)} : Rep K F v d → RepFs K F vs ds → RepFs K F ((k, v) :: vs) ((k, d) :: ds)
end

theorem same_t {K : PySem.W.Frag} {H H' : Hp} {a : Addr} {xs : List V} (e : Same H H') (h : SqT K H a xs) : SqT K H' a xs := by
  rcases h with (h | ⟨o, h⟩) | h
  · exact .inl (.inl (e _ _ h))
  · exact .inl (.inr ⟨o, e _ _ h⟩)
  · exact .inr h
theorem same_new {H : Hp} {p : Addr} {o : HO} (h : H p = none) : Same H (upd H p o) := fun b x e => by
  rw [upd_ne (ne_of_none e h)]
  exact e

mutual
theorem Rep.mono {K : Kn} {F F' : Hp} (e : Same F F') : ∀ {v : V} {d : D}, Rep K F v d → Rep K F' v d
  | _, _, .non => .non
  | _, _, .bl b => .bl b
  | _, _, .int i => .int i
  | _, _, .str x => .str x
  | _, _, .tup h r => .tup (same_t e h) (Reps.mono e r)
  | _, _, .lst h r => .lst (e _ _ h) (Reps.mono e r)
  | _, _, .dic h r => .dic (e _ _ h) (RepKs.mono e r)
  | _, _, .obj n h r => .obj n (e _ _ h) (RepFs.mono e r)
  | _, _, .opq v => .opq v
theorem Reps.mono {K : Kn} {F F' : Hp} (e : Same F F') : ∀ {v : List V} {d : List D}, Reps K F v d → Reps K F' v d
  | _, _, .nil => .nil
  | _, _, .cons r t => .cons (Rep.mono e r) (Reps.mono e t)
theorem RepKs.mono {K : Kn} {F F' : Hp} (e : Same F F') : ∀ {v : List (Key × V)} {d : List (Key × D)}, RepKs K F v d → RepKs K F' v d
  | _, _, .nil => .nil
  | _, _, .cons r t => .cons (Rep.mono e r) (RepKs.mono e t)
theorem RepFs.mono {K : Kn} {F F' : Hp} (e : Same F F') : ∀ {v : List (Str × V)} {d : List (Str × D)}, RepFs K F v d → RepFs K F' v d
  | _, _, .nil => .nil
  | _, _, .cons r t => .cons (Rep.mono e r) (RepFs.mono e t)
end

theorem Reps.length {K : Kn} {F : Hp} : ∀ {v : List V} {d : List D}, Reps K F v d → v.length = d.length
  | _, _, .nil => rfl
  | _, _, .cons _ t => by rw [List.length_cons, List.length_cons, Reps.length t]
theorem Reps.get {K : Kn} {F : Hp} : ∀ {v : List V} {d : List D} {i : Nat} {x : D}, Reps K F v d → d[i]? = some x → ∃ u, v[i]? = some u ∧ Rep K F u x
  | _, _, _, _, .nil, e => by simp at e
  | _, _, 0, x, .cons r _, e => by simp at e; subst e; exact ⟨_, rfl, r⟩
  | _, _, i + 1, x, .cons _ t, e => by
    obtain ⟨u, h1, h2⟩ := Reps.get (i := i) (x := x) t (by simpa using e)
    exact ⟨u, by simpa using h1, h2⟩
theorem Reps.getV {K : Kn} {F : Hp} : ∀ {v : List V} {d : List D} {i : Nat} {u : V}, Reps K F v d → v[i]? = some u → ∃ x, d[i]? = some x ∧ Rep K F u x
  | _, _, _, _, .nil, e => by simp at e
  | _, _, 0, x, .cons r _, e => by simp at e; subst e; exact ⟨_, rfl, r⟩
  | _, _, i + 1, x, .cons _ t, e => by
    obtain ⟨u, h1, h2⟩ := Reps.getV (i := i) (u := x) t (by simpa using e)
    exact ⟨u, by simpa using h1, h2⟩
theorem Reps.append {K : Kn} {F : Hp} : ∀ {v v' : List V} {d d' : List D}, Reps K F v d → Reps K F v' d' → Reps K F (v ++ v') (d ++ d')
  | _, _, _, _, .nil, h => h
  | _, _, _, _, .cons r t, h => .cons r (Reps.append t h)
theorem Reps.take {K : Kn} {F : Hp} : ∀ {v : List V} {d : List D} (n : Nat), Reps K F v d → Reps K F (v.take n) (d.take n)
  | _, _, 0, _ => .nil
  | _, _, n + 1, .nil => .nil
  | _, _, n + 1, .cons r t => .cons r (Reps.take n t)
theorem Reps.drop {K : Kn} {F : Hp} : ∀ {v : List V} {d : List D} (n : Nat), Reps K F v d → Reps K F (v.drop n) (d.drop n)
  | _, _, 0, h => h
  | _, _, n + 1, .nil => .nil
  | _, _, n + 1, .cons _ t => Reps.drop n t
theorem Reps.reverse {K : Kn} {F : Hp} : ∀ {v : List V} {d : List D}, Reps K F v d → Reps K F v.reverse d.reverse
  | _, _, .nil => .nil
  | _, _, .cons r t => by
    rw [List.reverse_cons, List.reverse_cons]
    exact Reps.append (Reps.reverse t) (.cons r .nil)
theorem Reps.set {K : Kn} {F : Hp} {u : V} {x : D} (h : Rep K F u x) : ∀ {v : List V} {d : List D} (n : Nat), Reps K F v d → Reps K F (v.set n u) (d.set n x)
  | _, _, _, .nil => .nil
  | _, _, 0, .cons _ t => .cons h t
  | _, _, n + 1, .cons r t => .cons r (Reps.set h n t)
theorem Reps.of_all {K : Kn} {F : Hp} : ∀ {v : List V} {d : List D}, v.length = d.length → (∀ (i : Nat) (u : V) (x : D), v[i]? = some u → d[i]? = some x → Rep K F u x) → Reps K F v d
  | [], [], _, _ => .nil
  | u :: v, x :: d, hl, h => .cons (h 0 u x rfl rfl) (Reps.of_all (by simpa using hl) fun i u' x' e1 e2 => h (i + 1) u' x' (by simpa using e1) (by simpa using e2))
theorem reps_ints {K : Kn} {F : Hp} : ∀ ns : List Int, Reps K F (ns.map V.int) (ns.map D.int)
  | [] => .nil
  | n :: ns => .cons (.int n) (reps_ints ns)

/-! ### the deck: the one object that calls change -/
abbrev WD := Option (Addr × Addr)
/-- the deck, the tables of the code objects of lambdas -/
structure WT where
  p : WD
  T : List (Addr × Str)
def InW (W : WT) (a : Addr) : Prop := (∃ p, W.p = some p ∧ (a = p.1 ∨ a = p.2)) ∨ ∃ x, x ∈ W.T ∧ a = x.1
/-- the dict at p.1 with the keys left (the list at p.2), mixed, draws -/
def deckO (l : Addr) (m n : Int) : HO := .dK [(.inr "left", .ref l), (.inr "mixed", .int m), (.inr "draws", .int n)]
structure DeckAt (p : Addr × Addr) (F H : Hp) : Prop where
  fd : F p.1 = none
  fl : F p.2 = none
  ne : p.1 ≠ p.2
  st : ∃ (ns : List Int) (m n : Int), H p.1 = some (deckO p.2 m n) ∧ H p.2 = some (.lst (ns.map V.int)) ∧ ns.length ≤ 63 ∧ 0 ≤ m ∧ m < 2147483587
/-- no table -/
def NT (o : HO) : Prop := ∀ ps, o ≠ .tbl ps
structure DeckIn (W : WT) (F H : Hp) : Prop where
  dk : ∀ p, W.p = some p → DeckAt p F H
  tf : ∀ x, x ∈ W.T → F x.1 = none
  tb : LamX.Tabs W.T H
  nf : ∀ a o, F a = some o → NT o
  ot : ∀ a ps, H a = some (.tbl ps) → ∃ x, x ∈ W.T ∧ a = x.1
theorem DeckIn.w {W : WT} {F H : Hp} {a : Addr} (h : DeckIn W F H) (w : InW W a) : F a = none ∧ H a ≠ none := by
  rcases w with ⟨p, e0, e⟩ | ⟨x, hx, rfl⟩
  · have z := h.dk p e0
    obtain ⟨ns, m, n, h1, h2, _⟩ := z.st
    rcases e with e | e <;> subst e
    · exact ⟨z.fd, by rw [h1]; exact Option.some_ne_none _⟩
    · exact ⟨z.fl, by rw [h2]; exact Option.some_ne_none _⟩
  · obtain ⟨ps, h1, _⟩ := h.tb x hx
    exact ⟨h.tf x hx, by rw [h1]; exact Option.some_ne_none _⟩
/-- the deck stands where its objects stand -/
theorem DeckIn.keep {W : WT} {F H F' H' : Hp} (h : DeckIn W F H) (hf : ∀ a, InW W a → F' a = F a) (hh : ∀ a, InW W a → H' a = H a) (ex : ∀ a φ, H a = some (.ext φ) → H' a = some (.ext φ)) (nf : ∀ a o, F' a = some o → NT o) (ot : ∀ a ps, H' a = some (.tbl ps) → H a = some (.tbl ps)) : DeckIn W F' H' :=
  ⟨fun p e => by
    have z := h.dk p e
    have i1 : InW W p.1 := .inl ⟨p, e, .inl rfl⟩
    have i2 : InW W p.2 := .inl ⟨p, e, .inr rfl⟩
    obtain ⟨ns, m, n, h1, h2, r⟩ := z.st
    exact ⟨by rw [hf _ i1]; exact z.fd, by rw [hf _ i2]; exact z.fl, z.ne, ns, m, n, by rw [hh _ i1]; exact h1, by rw [hh _ i2]; exact h2, r⟩,
  fun x hx => by
    rw [hf _ (.inr ⟨x, hx, rfl⟩)]
    exact h.tf x hx,
  fun x hx => by
    obtain ⟨ps, h1, h2, h3⟩ := h.tb x hx
    refine ⟨ps, by rw [hh _ (.inr ⟨x, hx, rfl⟩)]; exact h1, h2, fun pos cv hc => ?_⟩
    obtain ⟨c, e1, e2⟩ := h3 pos cv hc
    exact ⟨c, e1, ex c _ e2⟩, nf, fun a ps e => h.ot a ps (ot a ps e)⟩
theorem ot_upd {H : Hp} {p : Addr} {o : HO} (n : NT o) : ∀ a ps, upd H p o a = some (.tbl ps) → H a = some (.tbl ps) := fun a ps e => by
  by_cases z : a = p
  · subst z
    rw [upd_same] at e
    cases e
    exact absurd rfl (n ps)
  · rw [upd_ne z] at e
    exact e
theorem nf_upd {F : Hp} {p : Addr} {o : HO} (h : ∀ a o, F a = some o → NT o) (n : NT o) : ∀ a u, upd F p o a = some u → NT u := fun a u e => by
  by_cases z : a = p
  · subst z
    rw [upd_same] at e
    cases e
    exact n
  · rw [upd_ne z] at e
    exact h a u e

/-! ### growth -/
structure Grow (W : WT) (F H F' H' : Hp) : Prop where
  ff : Same F F'
  fh : Same F' H'
  hh : ∀ a o, H a = some o → ¬ InW W a → NT o → H' a = some o
  new : ∀ a, F a = none → H a ≠ none → F' a = none
  keep : ∀ a, H a ≠ none → H' a ≠ none
section
variable {W : WT} {F H F1 H1 F2 H2 : Hp} {p : Addr} {o : HO}
theorem Grow.refl (h : Same F H) : Grow W F H F H := ⟨Same.refl F, h, fun _ _ e _ _ => e, fun _ e _ => e, fun _ e => e⟩
theorem Grow.trans (a : Grow W F H F1 H1) (b : Grow W F1 H1 F2 H2) : Grow W F H F2 H2 :=
  ⟨a.ff.trans b.ff, b.fh, fun x o e w n => b.hh x o (a.hh x o e w n) w n, fun x e n => b.new x (a.new x e n) (a.keep x n), fun x n => b.keep x (a.keep x n)⟩
theorem Grow.back (g : Grow W F H F1 H1) {a : Addr} (h : H1 a = none) : H a = none := by
  cases e : H a with
  | none => rfl
  | some o => exact absurd h (g.keep a (by rw [e]; exact Option.some_ne_none _))
theorem upd_keep {H : Hp} {p a : Addr} {o : HO} (h : H a ≠ none) : upd H p o a ≠ none := by
  by_cases e : a = p
  · subst e
    rw [upd_same]
    exact Option.some_ne_none _
  · rw [upd_ne e]
    exact h
/-- a new tracked object -/
theorem Grow.laid (e : Same F H) (h : H p = none) : Grow W F H F (upd H p o) :=
  ⟨Same.refl F, e.trans (same_new h), fun a u q _ _ => same_new h a u q, fun _ q _ => q, fun _ q => upd_keep q⟩
theorem same_upd2 (e : Same F H) : Same (upd F p o) (upd H p o) := fun a u q => by
  by_cases z : a = p
  · subst z
    rw [upd_same] at q ⊢
    exact q
  · rw [upd_ne z] at q ⊢
    exact e a u q
/-- a new frozen object -/
theorem Grow.frz (e : Same F H) (h : H p = none) : Grow W F H (upd F p o) (upd H p o) :=
  ⟨same_new (e.free h), same_upd2 e, fun a u q _ _ => same_new h a u q, fun a q n => by
    have z : a ≠ p := fun z => n (by rw [z]; exact h)
    rw [upd_ne z]
    exact q, fun _ q => upd_keep q⟩
/-- what is new and tracked becomes frozen -/
theorem Grow.freeze {F' H' : Hp} (g : Grow W F H F' H') (hp : H p = none) (fp : F' p = none) (h : H' p = some o) : Grow W F H (upd F' p o) H' :=
  ⟨g.ff.trans (same_new fp), fun a u q => by
    by_cases z : a = p
    · subst z
      rw [upd_same] at q
      rw [h]
      exact q
    · rw [upd_ne z] at q
      exact g.fh a u q, g.hh, fun a q n => by
    have z : a ≠ p := fun z => n (by rw [z]; exact hp)
    rw [upd_ne z]
    exact g.new a q n, g.keep⟩
theorem DeckIn.freeze {F' H' : Hp} (d0 : DeckIn W F H) (d : DeckIn W F' H') (hp : H p = none) (nt : NT o := by intro _ z; cases z) : DeckIn W (upd F' p o) H' :=
  d.keep (fun a w => upd_ne fun z => (d0.w w).2 (by rw [z]; exact hp)) (fun _ _ => rfl) (fun _ _ e => e) (nf_upd d.nf nt) fun _ _ e => e
theorem DeckIn.laid (d : DeckIn W F H) (h : H p = none) (nt : NT o := by intro _ z; cases z) : DeckIn W F (upd H p o) :=
  d.keep (fun _ _ => rfl) (fun a w => upd_ne fun z => (d.w w).2 (by rw [z]; exact h)) (fun a φ e => by rw [upd_ne (ne_of_none e h)]; exact e) d.nf (ot_upd nt)
theorem DeckIn.frz (d : DeckIn W F H) (h : H p = none) (nt : NT o := by intro _ z; cases z) : DeckIn W (upd F p o) (upd H p o) :=
  d.keep (fun a w => upd_ne fun z => (d.w w).2 (by rw [z]; exact h)) (fun a w => upd_ne fun z => (d.w w).2 (by rw [z]; exact h)) (fun a φ e => by rw [upd_ne (ne_of_none e h)]; exact e) (nf_upd d.nf nt) (ot_upd nt)
end

/-! ### the state of a body -/
/-- a slot: nothing known, data, a list or a dict of one's own -/
inductive SV where
  | no | d (x : D) | ol (xs : List D) | od (kvs : List (Key × D))
  | oo (p : Addr) (C : Str) (fs : List (Str × D))
/-- where a body began -/
structure Bs where
  W : WT
  F : Hp
  H : Hp
def SlotR (K : Kn) (F H : Hp) : SV → Option Addr → Option V → Prop
  | .no, none, _ => True
  | .d x, none, some v => Rep K F v x
  | .ol xs, some a, some v => v = .ref a ∧ ∃ vs, H a = some (.lst vs) ∧ Reps K F vs xs
  | .od ks, some a, some v => v = .ref a ∧ ∃ vs, H a = some (.dK vs) ∧ RepKs K F vs ks
  | .oo p n fs, some a, some v => a = p ∧ v = .ref a ∧ ∃ C dx vs, K.mg n = some (.ref C) ∧ H a = some (.ins C dx vs) ∧ RepFs K F vs fs
  | _, _, _ => False
structure Own (B : Bs) (F : Hp) (own : Nat → Option Addr) : Prop where
  inj : ∀ i j a, own i = some a → own j = some a → i = j
  free : ∀ i a, own i = some a → B.H a = none ∧ F a = none
structure Rel (B : Bs) (K : Kn) (σ : List SV) (s : L2.St) (F H : Hp) : Prop where
  base : Grow B.W B.F B.H F H
  bdk : DeckIn B.W B.F B.H
  deck : DeckIn B.W F H
  len : σ.length = s.length
  slots : ∃ own, Own B F own ∧ ∀ (i : Nat) x v, σ[i]? = some x → s[i]? = some v → SlotR K F H x (own i) v
section
variable {B : Bs} {K : Kn} {σ : List SV} {s : L2.St} {F H F' H' : Hp}
theorem Rel.ex (R : Rel B K σ s F H) : Same F H := R.base.fh
theorem Own.notW {own : Nat → Option Addr} (O : Own B F own) (R : DeckIn B.W B.F B.H) {i : Nat} {a : Addr} (h : own i = some a) : ¬ InW B.W a := fun w => (R.w w).2 (O.free i a h).1
theorem SlotR.mono {x : SV} {w : Option Addr} {v : Option V} (h : SlotR K F H x w v) (e : Same F F') (k : ∀ a o, w = some a → H a = some o → NT o → H' a = some o) : SlotR K F' H' x w v := by
  cases x <;> cases w <;> cases v <;> first
    | exact h
    | exact False.elim h
    | skip
  · exact Rep.mono e h
  · obtain ⟨h1, vs, h2, h3⟩ := h
    exact ⟨h1, vs, k _ _ rfl h2 (by intro _ z; cases z), Reps.mono e h3⟩
  · obtain ⟨h1, vs, h2, h3⟩ := h
    exact ⟨h1, vs, k _ _ rfl h2 (by intro _ z; cases z), RepKs.mono e h3⟩
  · obtain ⟨h0, h1, C, dx, vs, hn, h2, h3⟩ := h
    exact ⟨h0, h1, C, dx, vs, hn, k _ _ rfl h2 (by intro _ z; cases z), RepFs.mono e h3⟩
theorem SlotR.there {x : SV} {a : Addr} {v : Option V} (h : SlotR K F H x (some a) v) : H a ≠ none := by
  cases x <;> cases v <;> first
    | exact False.elim h
    | (obtain ⟨_, vs, h2, _⟩ := h; rw [h2]; exact Option.some_ne_none _)
    | (obtain ⟨_, _, C, dx, vs, _, h2, _⟩ := h; rw [h2]; exact Option.some_ne_none _)
theorem Rel.grow (R : Rel B K σ s F H) (g : Grow B.W F H F' H') (d : DeckIn B.W F' H') : Rel B K σ s F' H' := by
  obtain ⟨own, O, h⟩ := R.slots
  have key : ∀ i x, σ[i]? = some x → ∃ v, s[i]? = some v := fun i x e => by
    have h1 : i < s.length := by rw [← R.len]; exact (List.getElem?_eq_some_iff.mp e).1
    exact ⟨s[i], List.getElem?_eq_getElem h1⟩
  -- an owned address out of the slots is of no use: forget it
  refine ⟨R.base.trans g, R.bdk, d, R.len, fun i => if i < σ.length then own i else none, ⟨fun i j a e1 e2 => ?_, fun i a e => ?_⟩, fun i x v e1 e2 => ?_⟩
  · split at e1 <;> split at e2 <;> first | exact O.inj i j a e1 e2 | cases e1 | cases e2
  · split at e
    · rename_i hi
      obtain ⟨h1, h2⟩ := O.free i a e
      refine ⟨h1, g.new a h2 ?_⟩
      obtain ⟨v, ev⟩ := key i σ[i] (by simp [hi])
      have q := h i σ[i] v (by simp [hi]) ev
      rw [e] at q
      exact q.there
    · cases e
  · have hi : i < σ.length := (List.getElem?_eq_some_iff.mp e1).1
    dsimp only
    rw [if_pos hi]
    exact (h i x v e1 e2).mono g.ff fun a o e q n => g.hh a o q (O.notW R.bdk e) n
/-- a slot takes data -/
theorem Rel.set (R : Rel B K σ s F H) {i : Nat} {v : V} {x : D} (h : Rep K F v x) : Rel B K (σ.set i (.d x)) (s.set i (some v)) F H := by
  obtain ⟨own, O, q⟩ := R.slots
  refine ⟨R.base, R.bdk, R.deck, by rw [List.length_set, List.length_set]; exact R.len, fun j => if j = i then none else own j, ⟨fun a b c e1 e2 => ?_, fun a b e => ?_⟩, fun j y u e1 e2 => ?_⟩
  · split at e1 <;> split at e2 <;> first | exact O.inj a b c e1 e2 | cases e1 | cases e2
  · split at e
    · cases e
    · exact O.free a b e
  · by_cases z : j = i
    · subst z
      have h1 : j < σ.length := by
        have := (List.getElem?_eq_some_iff.mp e1).1
        rwa [List.length_set] at this
      have h2 : j < s.length := by rw [← R.len]; exact h1
      rw [List.getElem?_set_self h1] at e1
      rw [List.getElem?_set_self h2] at e2
      cases e1
      cases e2
      dsimp only
      rw [if_pos rfl]
      exact h
    · rw [List.getElem?_set_ne (Ne.symm z)] at e1 e2
      dsimp only
      rw [if_neg z]
      exact q j y u e1 e2
/-- a slot is forgotten -/
theorem Rel.drop (R : Rel B K σ s F H) {i : Nat} {v : Option V} : Rel B K (σ.set i .no) (s.set i v) F H := by
  obtain ⟨own, O, q⟩ := R.slots
  refine ⟨R.base, R.bdk, R.deck, by rw [List.length_set, List.length_set]; exact R.len, fun j => if j = i then none else own j, ⟨fun a b c e1 e2 => ?_, fun a b e => ?_⟩, fun j y u e1 e2 => ?_⟩
  · split at e1 <;> split at e2 <;> first | exact O.inj a b c e1 e2 | cases e1 | cases e2
  · split at e
    · cases e
    · exact O.free a b e
  · by_cases z : j = i
    · subst z
      have h1 : j < σ.length := by
        have := (List.getElem?_eq_some_iff.mp e1).1
        rwa [List.length_set] at this
      rw [List.getElem?_set_self h1] at e1
      cases e1
      dsimp only
      rw [if_pos rfl]
      trivial
    · rw [List.getElem?_set_ne (Ne.symm z)] at e1 e2
      dsimp only
      rw [if_neg z]
      exact q j y u e1 e2
/-- a slot takes a new object of one's own -/
theorem Rel.setNew (R : Rel B K σ s F H) {i : Nat} {p : Addr} {x : SV} (g : Grow B.W F H F' H') (dk : DeckIn B.W F' H') (hp : H p = none) (fp : F' p = none) (h : SlotR K F' H' x (some p) (some (.ref p))) : Rel B K (σ.set i x) (s.set i (some (.ref p))) F' H' := by
  have R2 := R.grow g dk
  obtain ⟨own, O, q⟩ := R.slots
  have nop : ∀ j a, j < σ.length → own j = some a → H a ≠ none := fun j a hj e => by
    have h2 : j < s.length := by rw [← R.len]; exact hj
    have w := q j σ[j] s[j] (by simp [hj]) (by simp [h2])
    rw [e] at w
    exact w.there
  have bp : B.H p = none := R.base.back hp
  refine ⟨R2.base, R.bdk, R2.deck, by rw [List.length_set, List.length_set]; exact R.len, fun j => if j = i then some p else if j < σ.length then own j else none, ⟨fun a b c e1 e2 => ?_, fun a b e => ?_⟩, fun j y u e1 e2 => ?_⟩
  · split at e1 <;> split at e2 <;> (try split at e1) <;> (try split at e2) <;> (try cases e1) <;> (try cases e2) <;> (try subst_vars) <;> first
      | rfl
      | exact absurd hp (nop _ _ (by assumption) (by assumption))
      | (exact O.inj _ _ _ (by assumption) (by assumption))
  · split at e
    · cases e
      exact ⟨bp, fp⟩
    · split at e
      · rename_i hl
        obtain ⟨h1, h2⟩ := O.free a b e
        exact ⟨h1, g.new b h2 (nop a b hl e)⟩
      · cases e
  · by_cases z : j = i
    · subst z
      have h1 : j < σ.length := by
        have := (List.getElem?_eq_some_iff.mp e1).1
        rwa [List.length_set] at this
      have h2 : j < s.length := by rw [← R.len]; exact h1
      rw [List.getElem?_set_self h1] at e1
      rw [List.getElem?_set_self h2] at e2
      cases e1
      cases e2
      dsimp only
      rw [if_pos rfl]
      exact h
    · rw [List.getElem?_set_ne (Ne.symm z)] at e1 e2
      have hj : j < σ.length := (List.getElem?_eq_some_iff.mp e1).1
      dsimp only
      rw [if_neg z, if_pos hj]
      exact (q j y u e1 e2).mono g.ff fun a o' e w n => g.hh a o' w (O.notW R.bdk e) n
/-- what a slot with an object of one's own holds -/
theorem Rel.ownL (R : Rel B K σ s F H) {i : Nat} {xs : List D} (h : σ[i]? = some (.ol xs)) : ∃ a vs, s[i]? = some (some (.ref a)) ∧ H a = some (.lst vs) ∧ Reps K F vs xs ∧ ¬ InW B.W a ∧ F a = none ∧ B.H a = none := by
  obtain ⟨own, O, q⟩ := R.slots
  have h1 : i < s.length := by rw [← R.len]; exact (List.getElem?_eq_some_iff.mp h).1
  have w := q i _ s[i] h (by simp [h1])
  cases e : own i with
  | none =>
    rw [e] at w
    exact False.elim (by cases s[i] <;> exact w)
  | some a =>
    rw [e] at w
    cases e2 : s[i] with
    | none =>
      rw [e2] at w
      exact False.elim w
    | some v =>
      rw [e2] at w
      obtain ⟨rfl, vs, h2, h3⟩ := w
      exact ⟨a, vs, by rw [List.getElem?_eq_getElem h1, e2], h2, h3, O.notW R.bdk e, (O.free i a e).2, (O.free i a e).1⟩
theorem Rel.ownD (R : Rel B K σ s F H) {i : Nat} {xs : List (Key × D)} (h : σ[i]? = some (.od xs)) : ∃ a vs, s[i]? = some (some (.ref a)) ∧ H a = some (.dK vs) ∧ RepKs K F vs xs ∧ ¬ InW B.W a ∧ F a = none ∧ B.H a = none := by
  obtain ⟨own, O, q⟩ := R.slots
  have h1 : i < s.length := by rw [← R.len]; exact (List.getElem?_eq_some_iff.mp h).1
  have w := q i _ s[i] h (by simp [h1])
  cases e : own i with
  | none =>
    rw [e] at w
    exact False.elim (by cases s[i] <;> exact w)
  | some a =>
    rw [e] at w
    cases e2 : s[i] with
    | none =>
      rw [e2] at w
      exact False.elim w
    | some v =>
      rw [e2] at w
      obtain ⟨rfl, vs, h2, h3⟩ := w
      exact ⟨a, vs, by rw [List.getElem?_eq_getElem h1, e2], h2, h3, O.notW R.bdk e, (O.free i a e).2, (O.free i a e).1⟩
theorem Rel.ownO (R : Rel B K σ s F H) {i : Nat} {a : Addr} {n : Str} {xs : List (Str × D)} (h : σ[i]? = some (.oo a n xs)) : ∃ C dx vs, s[i]? = some (some (.ref a)) ∧ K.mg n = some (.ref C) ∧ H a = some (.ins C dx vs) ∧ RepFs K F vs xs ∧ ¬ InW B.W a ∧ F a = none ∧ B.H a = none := by
  obtain ⟨own, O, q⟩ := R.slots
  have h1 : i < s.length := by rw [← R.len]; exact (List.getElem?_eq_some_iff.mp h).1
  have w := q i _ s[i] h (by simp [h1])
  cases e : own i with
  | none =>
    rw [e] at w
    exact False.elim (by cases s[i] <;> exact w)
  | some a' =>
    rw [e] at w
    cases e2 : s[i] with
    | none =>
      rw [e2] at w
      exact False.elim w
    | some v =>
      rw [e2] at w
      obtain ⟨rfl, rfl, C, dx, vs, hn, h2, h3⟩ := w
      exact ⟨C, dx, vs, by rw [List.getElem?_eq_getElem h1, e2], hn, h2, h3, O.notW R.bdk e, (O.free i _ e).2, (O.free i _ e).1⟩
theorem Rel.dat (R : Rel B K σ s F H) {i : Nat} {x : D} (h : σ[i]? = some (.d x)) : ∃ v, s[i]? = some (some v) ∧ Rep K F v x := by
  obtain ⟨own, O, q⟩ := R.slots
  have h1 : i < s.length := by rw [← R.len]; exact (List.getElem?_eq_some_iff.mp h).1
  have w := q i _ s[i] h (by simp [h1])
  cases e : own i with
  | some a =>
    rw [e] at w
    exact False.elim (by cases s[i] <;> exact w)
  | none =>
    rw [e] at w
    cases e2 : s[i] with
    | none =>
      rw [e2] at w
      exact False.elim w
    | some v =>
      rw [e2] at w
      exact ⟨v, by rw [List.getElem?_eq_getElem h1, e2], w⟩
/-- an object of one's own is written -/
theorem Rel.write (R : Rel B K σ s F H) {i : Nat} {a : Addr} {o : HO} {x y : SV} (hx : σ[i]? = some y) (hy : (∃ xs, y = .ol xs) ∨ (∃ ks, y = .od ks) ∨ ∃ p n fs, y = .oo p n fs) (hs : s[i]? = some (some (.ref a))) (h : SlotR K F (upd H a o) x (some a) (some (.ref a))) (nt : NT o := by intro _ z; cases z) : Rel B K (σ.set i x) s F (upd H a o) := by
  obtain ⟨own, O, q⟩ := R.slots
  have w := q i _ _ hx hs
  have hi : i < σ.length := (List.getElem?_eq_some_iff.mp hx).1
  have eo : own i = some a := by
    cases e : own i with
    | none =>
      rw [e] at w
      rcases hy with ⟨_, rfl⟩ | ⟨_, rfl⟩ | ⟨_, _, _, rfl⟩ <;> exact False.elim w
    | some b =>
      rw [e] at w
      rcases hy with ⟨_, rfl⟩ | ⟨_, rfl⟩ | ⟨_, _, _, rfl⟩
      · obtain ⟨e2, _⟩ := w
        cases e2
        rfl
      · obtain ⟨e2, _⟩ := w
        cases e2
        rfl
      · obtain ⟨_, e2, _⟩ := w
        cases e2
        rfl
  obtain ⟨b0, f0⟩ := O.free i a eo
  have nw := O.notW R.bdk eo
  have nx : ∀ φ, H a ≠ some (.ext φ) := fun φ z => by
    rw [eo] at w
    rcases hy with ⟨_, rfl⟩ | ⟨_, rfl⟩ | ⟨_, _, _, rfl⟩
    · obtain ⟨_, _, e2, _⟩ := w
      rw [z] at e2
      cases e2
    · obtain ⟨_, _, e2, _⟩ := w
      rw [z] at e2
      cases e2
    · obtain ⟨_, _, _, _, _, _, e2, _⟩ := w
      rw [z] at e2
      cases e2
  have nb : ∀ b u, B.H b = some u → b ≠ a := fun b u e z => by rw [z, b0] at e; cases e
  refine ⟨⟨R.base.ff, fun b u e => ?_, fun b u e n nt' => ?_, R.base.new, fun b n => upd_keep (R.base.keep b n)⟩, R.bdk, R.deck.keep (fun _ _ => rfl) (fun b z => upd_ne fun e => nw (by rw [← e]; exact z)) (fun b φ e => by rw [upd_ne (fun z => nx φ (by rw [← z]; exact e))]; exact e) R.deck.nf (ot_upd nt), by rw [List.length_set]; exact R.len, own, O, fun j y' u e1 e2 => ?_⟩
  · have z : b ≠ a := fun z => by rw [z, f0] at e; cases e
    rw [upd_ne z]
    exact R.ex b u e
  · rw [upd_ne (nb b u e)]
    exact R.base.hh b u e n nt'
  · by_cases z : j = i
    · subst z
      rw [List.getElem?_set_self hi] at e1
      cases e1
      rw [hs] at e2
      cases e2
      rw [eo]
      exact h
    · rw [List.getElem?_set_ne (Ne.symm z)] at e1
      refine (q j y' u e1 e2).mono (Same.refl F) fun c o' e k _ => ?_
      have nc : c ≠ a := fun z' => z (O.inj j i c e (by rw [z']; exact eo))
      rw [upd_ne nc]
      exact k
/-- an object of one's own becomes data -/
theorem Rel.freeze (R : Rel B K σ s F H) {i : Nat} {a : Addr} {o : HO} {y : SV} {x : D} (hx : σ[i]? = some y) (hs : s[i]? = some (some (.ref a))) (ha : H a = some o) (hf : F a = none) (hb : B.H a = none) (hw : ¬ InW B.W a) (hy : (∃ xs, y = .ol xs) ∨ (∃ ks, y = .od ks) ∨ ∃ p n fs, y = .oo p n fs)
    (h : Rep K (upd F a o) (.ref a) x) (nt : NT o := by intro _ z; cases z) : Rel B K (σ.set i (.d x)) s (upd F a o) H := by
  obtain ⟨own, O, q⟩ := R.slots
  have hi : i < σ.length := (List.getElem?_eq_some_iff.mp hx).1
  have w := q i _ _ hx hs
  have eo : own i = some a := by
    cases e : own i with
    | none =>
      rw [e] at w
      rcases hy with ⟨_, rfl⟩ | ⟨_, rfl⟩ | ⟨_, _, _, rfl⟩ <;> exact False.elim w
    | some b =>
      rw [e] at w
      rcases hy with ⟨_, rfl⟩ | ⟨_, rfl⟩ | ⟨_, _, _, rfl⟩
      · obtain ⟨e2, _⟩ := w
        cases e2
        rfl
      · obtain ⟨e2, _⟩ := w
        cases e2
        rfl
      · obtain ⟨_, e2, _⟩ := w
        cases e2
        rfl
  have sm : Same F (upd F a o) := same_new hf
  refine ⟨⟨R.base.ff.trans sm, fun b u e => ?_, R.base.hh, fun b e n => ?_, R.base.keep⟩, R.bdk, R.deck.keep (fun b z => upd_ne fun e => hw (by rw [← e]; exact z)) (fun _ _ => rfl) (fun _ _ e => e) (nf_upd R.deck.nf nt) fun _ _ e => e, by rw [List.length_set]; exact R.len,
    fun j => if j = i then none else own j, ⟨fun b c d e1 e2 => ?_, fun b c e => ?_⟩, fun j y' u e1 e2 => ?_⟩
  · by_cases z : b = a
    · subst z
      rw [upd_same] at e
      rw [ha]
      exact e
    · rw [upd_ne z] at e
      exact R.ex b u e
  · have z : b ≠ a := fun z => n (by rw [z]; exact hb)
    rw [upd_ne z]
    exact R.base.new b e n
  · split at e1 <;> split at e2 <;> first | exact O.inj b c d e1 e2 | cases e1 | cases e2
  · split at e
    · cases e
    · rename_i nz
      obtain ⟨h1, h2⟩ := O.free b c e
      refine ⟨h1, ?_⟩
      have z : c ≠ a := fun z => nz (O.inj b i c e (by rw [z]; exact eo))
      rw [upd_ne z]
      exact h2
  · by_cases z : j = i
    · subst z
      rw [List.getElem?_set_self hi] at e1
      cases e1
      rw [hs] at e2
      cases e2
      dsimp only
      rw [if_pos rfl]
      exact h
    · rw [List.getElem?_set_ne (Ne.symm z)] at e1
      dsimp only
      rw [if_neg z]
      exact (q j y' u e1 e2).mono sm fun _ _ _ k _ => k
end
end ND

/-! ND2: expressions -/
namespace ND
open PySem PySem.Spec L2

/-! ### judgements -/
abbrev _root_.L2.Cx.kn (X : Cx) : Kn := ⟨X.K, X.mg⟩
abbrev GE := List SV → (D → Prop) → Prop
abbrev GT := List SV → (Bool → Prop) → Prop
abbrev GA := List SV → (List D → Prop) → Prop
/-- what is borrowed: data, or an object of one's own as it stands -/
def RepB (W : WT) (K : Kn) (F H : Hp) (v : V) (d : D) : Prop :=
  Rep K F v d ∨ (∃ a ds vs, v = .ref a ∧ d = .lst ds ∧ ¬ InW W a ∧ H a = some (.lst vs) ∧ Reps K F vs ds) ∨ ∃ a ds vs, v = .ref a ∧ d = .dic ds ∧ ¬ InW W a ∧ H a = some (.dK vs) ∧ RepKs K F vs ds
theorem RepB.grow {W : WT} {K : Kn} {F H F' H' : Hp} {v : V} {d : D} (h : RepB W K F H v d) (g : Grow W F H F' H') : RepB W K F' H' v d := by
  rcases h with h | ⟨a, ds, vs, e1, e2, n, e3, r⟩ | ⟨a, ds, vs, e1, e2, n, e3, r⟩
  · exact .inl (h.mono g.ff)
  · exact .inr (.inl ⟨a, ds, vs, e1, e2, n, g.hh _ _ e3 n (by intro _ z; cases z), r.mono g.ff⟩)
  · exact .inr (.inr ⟨a, ds, vs, e1, e2, n, g.hh _ _ e3 n (by intro _ z; cases z), r.mono g.ff⟩)
theorem RepB.lst {W : WT} {K : Kn} {F H : Hp} {v : V} {ds : List D} (h : RepB W K F H v (.lst ds)) (e : Same F H) : ∃ a vs, v = .ref a ∧ H a = some (.lst vs) ∧ Reps K F vs ds := by
  rcases h with h | ⟨a, ds', vs, e1, e2, n, e3, r⟩ | ⟨a, ds', vs, e1, e2, n, e3, r⟩
  · cases h with
    | lst h r => exact ⟨_, _, rfl, e _ _ h, r⟩
  · cases e2
    exact ⟨a, vs, e1, e3, r⟩
  · cases e2
theorem RepB.dic {W : WT} {K : Kn} {F H : Hp} {v : V} {ds : List (Key × D)} (h : RepB W K F H v (.dic ds)) (e : Same F H) : ∃ a vs, v = .ref a ∧ H a = some (.dK vs) ∧ RepKs K F vs ds := by
  rcases h with h | ⟨a, ds', vs, e1, e2, n, e3, r⟩ | ⟨a, ds', vs, e1, e2, n, e3, r⟩
  · cases h with
    | dic h r => exact ⟨_, _, rfl, e _ _ h, r⟩
  · cases e2
  · cases e2
    exact ⟨a, vs, e1, e3, r⟩
theorem RepB.tup {W : WT} {K : Kn} {F H : Hp} {v : V} {ds : List D} (h : RepB W K F H v (.tup ds)) (e : Same F H) : ∃ a vs, v = .ref a ∧ SqT K.K F a vs ∧ SqT K.K H a vs ∧ Reps K F vs ds := by
  rcases h with h | ⟨a, ds', vs, e1, e2, n, e3, r⟩ | ⟨a, ds', vs, e1, e2, n, e3, r⟩
  · cases h with
    | tup h r => exact ⟨_, _, rfl, h, same_t e h, r⟩
  · cases e2
  · cases e2
theorem RepB.int {W : WT} {K : Kn} {F H : Hp} {v : V} {i : Int} (h : RepB W K F H v (.int i)) : v = .int i := by
  rcases h with h | ⟨a, ds', vs, e1, e2, n, e3, r⟩ | ⟨a, ds', vs, e1, e2, n, e3, r⟩
  · cases h
    rfl
  · cases e2
  · cases e2
theorem RepB.bl {W : WT} {K : Kn} {F H : Hp} {v : V} {i : Bool} (h : RepB W K F H v (.bl i)) : v = .bl i := by
  rcases h with h | ⟨a, ds', vs, e1, e2, n, e3, r⟩ | ⟨a, ds', vs, e1, e2, n, e3, r⟩
  · cases h
    rfl
  · cases e2
  · cases e2
theorem RepB.str {W : WT} {K : Kn} {F H : Hp} {v : V} {i : Str} (h : RepB W K F H v (.str i)) : v = .str i := by
  rcases h with h | ⟨a, ds', vs, e1, e2, n, e3, r⟩ | ⟨a, ds', vs, e1, e2, n, e3, r⟩
  · cases h
    rfl
  · cases e2
  · cases e2
theorem RepB.non {W : WT} {K : Kn} {F H : Hp} {v : V} (h : RepB W K F H v .non) : v = .non := by
  rcases h with h | ⟨a, ds', vs, e1, e2, n, e3, r⟩ | ⟨a, ds', vs, e1, e2, n, e3, r⟩
  · cases h
    rfl
  · cases e2
  · cases e2
theorem RepB.opq {W : WT} {K : Kn} {F H : Hp} {v u : V} (h : RepB W K F H v (.opq u)) : v = u := by
  rcases h with h | ⟨a, ds', vs, e1, e2, n, e3, r⟩ | ⟨a, ds', vs, e1, e2, n, e3, r⟩
  · cases h
    rfl
  · cases e2
  · cases e2
theorem RepB.obj {W : WT} {K : Kn} {F H : Hp} {v : V} {n : Str} {ds : List (Str × D)} (h : RepB W K F H v (.obj n ds)) (e : Same F H) : ∃ a C dx fs, K.mg n = some (.ref C) ∧ v = .ref a ∧ H a = some (.ins C dx fs) ∧ RepFs K F fs ds := by
  rcases h with h | ⟨a, ds', vs, e1, e2, n, e3, r⟩ | ⟨a, ds', vs, e1, e2, n, e3, r⟩
  · cases h with
    | obj n h r => exact ⟨_, _, _, _, n, rfl, e _ _ h, r⟩
  · cases e2
  · cases e2

/-- the data Qd are wanted: so is Q of each value that is one of them -/
def Fin (B : Bs) (K : Kn) (F H : Hp) (Qd : D → Prop) (Q : VK) : Prop := ∀ d, Qd d → ∀ F' H' v, Grow B.W F H F' H' → DeckIn B.W F' H' → Rep K F' v d → Q v H'
def FinB (B : Bs) (K : Kn) (F H : Hp) (Qd : D → Prop) (Q : VK) : Prop := ∀ d, Qd d → ∀ F' H' v, Grow B.W F H F' H' → DeckIn B.W F' H' → RepB B.W K F' H' v d → Q v H'
def FinT (B : Bs) (F H : Hp) (Qd : Bool → Prop) (Q : Bool → Hp → Prop) : Prop := ∀ b, Qd b → ∀ F' H', Grow B.W F H F' H' → DeckIn B.W F' H' → Q b H'
def FinA (B : Bs) (K : Kn) (F H : Hp) (Qd : List D → Prop) (Q : List V → Hp → Prop) : Prop := ∀ ds, Qd ds → ∀ F' H' vs, Grow B.W F H F' H' → DeckIn B.W F' H' → Reps K F' vs ds → Q vs H'
inductive RepBs (W : WT) (K : Kn) (F H : Hp) : List V → List D → Prop
  | nil : RepBs W K F H [] []
  | cons {v : V} {vs : List V} {d : D} {ds : List D} : RepB W K F H v d → RepBs W K F H vs ds → RepBs W K F H (v :: vs) (d :: ds)
def FinAB (B : Bs) (K : Kn) (F H : Hp) (Qd : List D → Prop) (Q : List V → Hp → Prop) : Prop := ∀ ds, Qd ds → ∀ F' H' vs, Grow B.W F H F' H' → DeckIn B.W F' H' → RepBs B.W K F' H' vs ds → Q vs H'
/-- a new list, not frozen yet -/
def FinF (B : Bs) (K : Kn) (F H : Hp) (Qd : List D → Prop) (Q : VK) : Prop := ∀ ds, Qd ds → ∀ F' H' p vs, Grow B.W F H F' H' → DeckIn B.W F' H' → H p = none → F' p = none → H' p = some (.lst vs) → Reps K F' vs ds → Q (.ref p) H'

def LE (B : Bs) (K : Kn) (f : GE) : TE := fun s H Q => ∃ σ F Qd, Rel B K σ s F H ∧ f σ Qd ∧ Fin B K F H Qd Q
def LB (B : Bs) (K : Kn) (f : GE) : TE := fun s H Q => ∃ σ F Qd, Rel B K σ s F H ∧ f σ Qd ∧ FinB B K F H Qd Q
def LF (B : Bs) (K : Kn) (f : GA) : TE := fun s H Q => ∃ σ F Qd, Rel B K σ s F H ∧ f σ Qd ∧ FinF B K F H Qd Q
def LT (B : Bs) (K : Kn) (f : GT) : TT := fun s H Q => ∃ σ F Qd, Rel B K σ s F H ∧ f σ Qd ∧ FinT B F H Qd Q
def LA (B : Bs) (K : Kn) (f : GA) : TA := fun s H Q => ∃ σ F Qd, Rel B K σ s F H ∧ f σ Qd ∧ FinA B K F H Qd Q
def LAB (B : Bs) (K : Kn) (f : GA) : TA := fun s H Q => ∃ σ F Qd, Rel B K σ s F H ∧ f σ Qd ∧ FinAB B K F H Qd Q
/-- an expression gives data | may be borrowed | gives a new list | a test | arguments -/
structure ED (B : Bs) (X : Cx) (e : Expr) (f : GE) : Prop where
  run : PE X e (LE B X.kn f)
structure BD (B : Bs) (X : Cx) (e : Expr) (f : GE) : Prop where
  run : PE X e (LB B X.kn f)
structure FD (B : Bs) (X : Cx) (e : Expr) (f : GA) : Prop where
  run : PE X e (LF B X.kn f)
structure TD (B : Bs) (X : Cx) (e : Expr) (f : GT) : Prop where
  run : PT X e (LT B X.kn f)
structure WDd (B : Bs) (X : Cx) (e : Expr) (f : GT) : Prop where
  run : PW X e (LT B X.kn f)
structure AD (B : Bs) (X : Cx) (es : List Expr) (f : GA) : Prop where
  run : PA X es (LA B X.kn f)
structure ABD (B : Bs) (X : Cx) (es : List Expr) (f : GA) : Prop where
  run : PA X es (LAB B X.kn f)

theorem pe_imp {X : Cx} {e : Expr} {t t' : TE} (h : PE X e t) (w : ∀ s H Q, t' s H Q → t s H Q) : PE X e t' := ⟨fun pins s σ H Q I q => h.run pins s σ H Q I (w _ _ _ q)⟩
theorem pt_imp {X : Cx} {e : Expr} {t t' : TT} (h : PT X e t) (w : ∀ s H Q, t' s H Q → t s H Q) : PT X e t' := ⟨fun pins s σ H Q I q => h.run pins s σ H Q I (w _ _ _ q)⟩
theorem pw_imp {X : Cx} {e : Expr} {t t' : TT} (h : PW X e t) (w : ∀ s H Q, t' s H Q → t s H Q) : PW X e t' := ⟨fun wh pins s σ H Q I q => h.run wh pins s σ H Q I (w _ _ _ q)⟩
theorem pa_imp {X : Cx} {e : List Expr} {t t' : TA} (h : PA X e t) (w : ∀ s H Q, t' s H Q → t s H Q) : PA X e t' := ⟨fun pos pins s σ H Q I q => h.run pos pins s σ H Q I (w _ _ _ q)⟩

section
variable {B : Bs} {X : Cx} {e a b c : Expr} {es : List Expr} {f fa fb fc : GE} {pos : Pos}
theorem Fin.more {K : Kn} {F H F' H' : Hp} {Qd : D → Prop} {Q : VK} (h : Fin B K F H Qd Q) (g : Grow B.W F H F' H') : Fin B K F' H' Qd Q := fun d q F2 H2 v g2 dk r => h d q F2 H2 v (g.trans g2) dk r
theorem FinB.more {K : Kn} {F H F' H' : Hp} {Qd : D → Prop} {Q : VK} (h : FinB B K F H Qd Q) (g : Grow B.W F H F' H') : FinB B K F' H' Qd Q := fun d q F2 H2 v g2 dk r => h d q F2 H2 v (g.trans g2) dk r
theorem FinT.more {F H F' H' : Hp} {Qd : Bool → Prop} {Q : Bool → Hp → Prop} (h : FinT B F H Qd Q) (g : Grow B.W F H F' H') : FinT B F' H' Qd Q := fun d q F2 H2 g2 dk => h d q F2 H2 (g.trans g2) dk
theorem FinA.more {K : Kn} {F H F' H' : Hp} {Qd : List D → Prop} {Q : List V → Hp → Prop} (h : FinA B K F H Qd Q) (g : Grow B.W F H F' H') : FinA B K F' H' Qd Q := fun d q F2 H2 v g2 dk r => h d q F2 H2 v (g.trans g2) dk r
theorem FinAB.more {K : Kn} {F H F' H' : Hp} {Qd : List D → Prop} {Q : List V → Hp → Prop} (h : FinAB B K F H Qd Q) (g : Grow B.W F H F' H') : FinAB B K F' H' Qd Q := fun d q F2 H2 v g2 dk r => h d q F2 H2 v (g.trans g2) dk r
theorem FinF.more {K : Kn} {F H F' H' : Hp} {Qd : List D → Prop} {Q : VK} (h : FinF B K F H Qd Q) (g : Grow B.W F H F' H') : FinF B K F' H' Qd Q := fun d q F2 H2 p vs g2 dk hp fp e r => h d q F2 H2 p vs (g.trans g2) dk (g.back hp) fp e r
/-- a list just laid -/
theorem FinF.laid {K : Kn} {F H : Hp} {Qd : List D → Prop} {Q : VK} (h : FinF B K F H Qd Q) (e : Same F H) (dk : DeckIn B.W F H) {ds : List D} {p : Addr} {vs : List V} (q : Qd ds) (hp : H p = none) (r : Reps K F vs ds) : Q (.ref p) (upd H p (.lst vs)) :=
  h ds q F _ p vs (Grow.laid e hp) (dk.laid hp) hp (e.free hp) upd_same r

theorem ED.toB (h : ED B X e f) : BD B X e f := ⟨pe_imp h.run fun s H Q ⟨σ, F, Qd, R, q, k⟩ => ⟨σ, F, Qd, R, q, fun d qd F' H' v g dk r => k d qd F' H' v g dk (.inl r)⟩⟩
/-- a new list becomes data -/
@[simp] def gFrz (f : GA) (σ : List SV) (Q : D → Prop) : Prop := f σ fun ds => Q (.lst ds)
theorem fin_frz {K : Kn} {F H : Hp} {Qd : D → Prop} {Q : VK} (d0 : DeckIn B.W F H) (k : Fin B K F H Qd Q) : FinF B K F H (fun ds => Qd (.lst ds)) Q := fun ds qd F' H' p vs g dk hp fp e r =>
  k _ qd _ _ _ (g.freeze hp fp e) (d0.freeze dk hp) (.lst upd_same (r.mono (same_new fp)))
theorem FD.toE {f : GA} (h : FD B X e f) : ED B X e (gFrz f) := ⟨pe_imp h.run fun s H Q ⟨σ, F, Qd, R, q, k⟩ => ⟨σ, F, fun ds => Qd (.lst ds), R, q, fin_frz R.deck k⟩⟩
theorem FD.toB {f : GA} (h : FD B X e f) : BD B X e (gFrz f) := h.toE.toB

/-! ### names, constants -/
@[simp] def gVar (i : Nat) (σ : List SV) (Q : D → Prop) : Prop := match σ[i]? with | some (.d x) => Q x | _ => False
@[simp] def gVarB (i : Nat) (σ : List SV) (Q : D → Prop) : Prop := match σ[i]? with | some (.d x) => Q x | some (.ol xs) => Q (.lst xs) | some (.od ks) => Q (.dic ks) | _ => False
@[simp] def gC (d : D) (_ : List SV) (Q : D → Prop) : Prop := Q d
theorem ed_var (i : Nat) {x : Str} (h : PE X (.Name x pos) (tVar i)) : ED B X (.Name x pos) (gVar i) := ⟨pe_imp h fun s H Q ⟨σ, F, Qd, R, q, k⟩ => by
  unfold gVar at q
  split at q
  · rename_i x e
    obtain ⟨v, h1, h2⟩ := R.dat e
    exact ⟨v, h1, k _ q F H v (Grow.refl R.ex) R.deck h2⟩
  · exact q.elim⟩
theorem bd_var (i : Nat) {x : Str} (h : PE X (.Name x pos) (tVar i)) : BD B X (.Name x pos) (gVarB i) := ⟨pe_imp h fun s H Q ⟨σ, F, Qd, R, q, k⟩ => by
  unfold gVarB at q
  split at q
  · rename_i x e
    obtain ⟨v, h1, h2⟩ := R.dat e
    exact ⟨v, h1, k _ q F H v (Grow.refl R.ex) R.deck (.inl h2)⟩
  · rename_i xs e
    obtain ⟨a, vs, h1, h2, h3, h4, _⟩ := R.ownL e
    exact ⟨.ref a, h1, k _ q F H _ (Grow.refl R.ex) R.deck (.inr (.inl ⟨a, xs, vs, rfl, rfl, h4, h2, h3⟩))⟩
  · rename_i xs e
    obtain ⟨a, vs, h1, h2, h3, h4, _⟩ := R.ownD e
    exact ⟨.ref a, h1, k _ q F H _ (Grow.refl R.ex) R.deck (.inr (.inr ⟨a, xs, vs, rfl, rfl, h4, h2, h3⟩))⟩
  · exact q.elim⟩
/-- a value that is known -/
theorem ed_c {v : V} {d : D} (h : PE X e (tC v)) (r : ∀ F, Rep X.kn F v d) : ED B X e (gC d) := ⟨pe_imp h fun s H Q ⟨σ, F, Qd, R, q, k⟩ => k d q F H v (Grow.refl R.ex) R.deck (r F)⟩
theorem ed_int {i : Int} {j : Nat} : ED B X (.Constant (.int i) j pos) (gC (.int i)) := ed_c pe_int fun _ => .int i
theorem ed_bl {i : Bool} {j : Nat} : ED B X (.Constant (.bool i) j pos) (gC (.bl i)) := ed_c pe_bl fun _ => .bl i
theorem ed_non {j : Nat} : ED B X (.Constant .none j pos) (gC .non) := ed_c pe_non fun _ => .non
theorem ed_str {x : Str} {j : Nat} : ED B X (.Constant (.str x) j pos) (gC (.str x)) := ed_c pe_str fun _ => .str x

/-! ### two in a row -/
theorem lb_two {K : Kn} {s : L2.St} {σ : List SV} {F H : Hp} {R2 : V → V → Hp → Prop} {Qd : D → D → Prop} (R : Rel B K σ s F H) (q : fa σ fun x => fb σ fun y => Qd x y)
    (k : ∀ x y F' H' v u, Qd x y → Grow B.W F H F' H' → DeckIn B.W F' H' → RepB B.W K F' H' v x → RepB B.W K F' H' u y → R2 v u H') : LB B K fa s H fun v H1 => LB B K fb s H1 fun u H2 => R2 v u H2 :=
  ⟨σ, F, _, R, q, fun x qx F1 H1 v g1 d1 r1 => ⟨σ, F1, _, R.grow g1 d1, qx, fun y qy F2 H2 u g2 d2 r2 => k x y F2 H2 v u qy (g1.trans g2) d2 (r1.grow g2) r2⟩⟩
/-- an operation on values, by data -/
def LO2 (B : Bs) (K : Kn) (g : D → D → (D → Prop) → Prop) : R2 := fun v u H Q => ∃ F x y Qd, Same F H ∧ DeckIn B.W F H ∧ RepB B.W K F H v x ∧ RepB B.W K F H u y ∧ g x y Qd ∧ Fin B K F H Qd Q
def LO1 (B : Bs) (K : Kn) (g : D → (D → Prop) → Prop) : V → Hp → VK → Prop := fun v H Q => ∃ F x Qd, Same F H ∧ DeckIn B.W F H ∧ RepB B.W K F H v x ∧ g x Qd ∧ Fin B K F H Qd Q
@[simp] def gBin (g : D → D → (D → Prop) → Prop) (fa fb : GE) (σ : List SV) (Q : D → Prop) : Prop := fa σ fun x => fb σ fun y => g x y Q
@[simp] def gUn (g : D → (D → Prop) → Prop) (fa : GE) (σ : List SV) (Q : D → Prop) : Prop := fa σ fun x => g x Q
variable {g : D → D → (D → Prop) → Prop}
theorem lo2_of {K : Kn} {s : L2.St} {σ : List SV} {F H : Hp} {Qd : D → Prop} {Q : VK} (R : Rel B K σ s F H) (q : gBin g fa fb σ Qd) (k : Fin B K F H Qd Q) : tOp (LO2 B K g) (LB B K fa) (LB B K fb) s H Q :=
  lb_two (Qd := fun x y => g x y Qd) R q fun x y F' H' v u q g' d r1 r2 => ⟨F', x, y, Qd, g'.fh, d, r1, r2, q, k.more g'⟩
theorem ed_bin {op : Operator} (ho : OpR X (binaryOp op) (LO2 B X.kn g)) (ha : BD B X a fa) (hb : BD B X b fb) : ED B X (.BinOp a op b pos) (gBin g fa fb) :=
  ⟨pe_imp (pe_op ho ha.run hb.run) fun s H Q ⟨σ, F, Qd, R, q, k⟩ => lo2_of R q k⟩
theorem ed_un {op : UnaryOp} {g : D → (D → Prop) → Prop} (ho : UnR X (unaryOp op) (LO1 B X.kn g)) (ha : BD B X a fa) : ED B X (.UnaryOp op a pos) (gUn g fa) :=
  ⟨pe_imp (pe_un ho ha.run) fun s H Q ⟨σ, F, Qd, R, q, k⟩ => ⟨σ, F, _, R, q, fun x qx F1 H1 v g1 d1 r1 => ⟨F1, x, Qd, g1.fh, d1, r1, qx, k.more g1⟩⟩⟩
theorem opR_imp {f : Value → Value → Sem Value} {r r' : R2} (h : OpR X f r) (w : ∀ v u H Q, r' v u H Q → r v u H Q) : OpR X f r' := fun pins s σ H x y v u Q I rx ry q => h pins s σ H x y v u Q I rx ry (w _ _ _ _ q)
theorem opR_by {f : Value → Value → Sem Value} {r' : R2} (w : ∀ v u H Q, r' v u H Q → ∃ r, OpR X f r ∧ r v u H Q) : OpR X f r' := fun pins s σ H x y v u Q I rx ry q => by
  obtain ⟨r, h, q'⟩ := w _ _ _ _ q
  exact h pins s σ H x y v u Q I rx ry q'
theorem unR_by {f : Value → Sem Value} {r' : V → Hp → VK → Prop} (w : ∀ v H Q, r' v H Q → ∃ r, UnR X f r ∧ r v H Q) : UnR X f r' := fun pins s σ H x v Q I rx q => by
  obtain ⟨r, h, q'⟩ := w _ _ _ q
  exact h pins s σ H x v Q I rx q'
theorem Fin.here {K : Kn} {F H : Hp} {Qd : D → Prop} {Q : VK} (k : Fin B K F H Qd Q) (e : Same F H) (dk : DeckIn B.W F H) {d : D} {v : V} (q : Qd d) (r : Rep K F v d) : Q v H := k d q F H v (Grow.refl e) dk r
theorem Fin.frz {K : Kn} {F H : Hp} {Qd : D → Prop} {Q : VK} (k : Fin B K F H Qd Q) (e : Same F H) (dk : DeckIn B.W F H) {d : D} {p : Addr} {o : HO} (q : Qd d) (hp : H p = none) (r : Rep K (upd F p o) (.ref p) d) (nt : NT o := by intro _ z; cases z) : Q (.ref p) (upd H p o) :=
  k d q _ _ _ (Grow.frz e hp) (dk.frz hp nt) r

/-! ### arithmetic -/
/-- integers that may be multiplied -/
def MulOk (i j : Int) : Prop := i.natAbs.log2 + j.natAbs.log2 < 1000000
def DivOk (j : Int) : Prop := j ≠ 0 ∧ j.natAbs.log2 < 9000
def addD : D → D → (D → Prop) → Prop
  | .int i, .int j, Q => Q (.int (i + j))
  | .str i, .str j, Q => i.length + j.length ≤ sizeLine ∧ Q (.str (i ++ j))
  | .tup xs, .tup ys, Q => xs.length + ys.length ≤ sizeLine ∧ Q (.tup (xs ++ ys))
  | .lst xs, .lst ys, Q => xs.length + ys.length ≤ sizeLine ∧ Q (.lst (xs ++ ys))
  | _, _, _ => False
def subD : D → D → (D → Prop) → Prop
  | .int i, .int j, Q => Q (.int (i - j))
  | _, _, _ => False
def mulD : D → D → (D → Prop) → Prop
  | .int i, .int j, Q => MulOk i j ∧ Q (.int (i * j))
  | .lst xs, .int k, Q => 0 ≤ k ∧ k < 2 ^ 63 ∧ xs.length * k.toNat ≤ sizeLine ∧ Q (.lst (List.replicate k.toNat xs).flatten)
  | _, _, _ => False
/-- floors: by a positive divisor as Lean's / and % -/
def fdivD : D → D → (D → Prop) → Prop
  | .int i, .int j, Q => 0 < j ∧ j.natAbs.log2 < 9000 ∧ Q (.int (i / j))
  | _, _, _ => False
def modD : D → D → (D → Prop) → Prop
  | .int i, .int j, Q => 0 < j ∧ Q (.int (i % j))
  | _, _, _ => False
def powD : D → D → (D → Prop) → Prop
  | .int i, .int j, Q => 0 ≤ j ∧ j ≤ 1000000 ∧ i.natAbs < 2 ^ 64 ∧ Q (.int (i ^ j.toNat))
  | _, _, _ => False
def shlD : D → D → (D → Prop) → Prop
  | .int i, .int j, Q => 0 ≤ j ∧ j ≤ 1000000 ∧ i.natAbs < 2 ^ 64 ∧ Q (.int (i * 2 ^ j.toNat))
  | _, _, _ => False
def andD : D → D → (D → Prop) → Prop
  | .int i, .int j, Q => Q (.int (Builtin.bitAnd i j))
  | _, _, _ => False
def xorD : D → D → (D → Prop) → Prop
  | .int i, .int j, Q => Q (.int (Builtin.bitXor i j))
  | _, _, _ => False
def negD : D → (D → Prop) → Prop
  | .int i, Q => Q (.int (-i))
  | _, _ => False
theorem o_add : OpR X (binaryOp .Add) (LO2 B X.kn addD) := opR_by fun v u H Q ⟨F, x, y, Qd, e, dk, r1, r2, q, k⟩ => by
  unfold addD at q
  split at q
  · exact ⟨_, op_add, _, _, r1.int, r2.int, k.here e dk q (.int _)⟩
  · exact ⟨_, op_add_str, _, _, r1.str, r2.str, q.1, k.here e dk q.2 (.str _)⟩
  · obtain ⟨a, vs, rfl, f1, h1, s1⟩ := r1.tup e
    obtain ⟨b, us, rfl, f2, h2, s2⟩ := r2.tup e
    refine ⟨_, op_catA, a, b, vs, us, rfl, rfl, h1, h2, by rw [s1.length, s2.length]; exact q.1, ?_⟩
    have z := s1.append s2
    refine ⟨fun w => ?_, fun w1 w => ?_, fun w1 w2 p hp => ?_⟩
    · subst w
      cases s1
      exact k.here e dk q.2 (.tup f2 (by simpa using s2))
    · subst w
      cases s2
      exact k.here e dk q.2 (.tup f1 (by simpa using s1))
    · exact k.frz e dk q.2 hp (.tup (SqT.of upd_same) (z.mono (same_new (e.free hp))))
  · obtain ⟨a, vs, rfl, h1, s1⟩ := r1.lst e
    obtain ⟨b, us, rfl, h2, s2⟩ := r2.lst e
    exact ⟨_, op_cat, a, b, vs, us, rfl, rfl, h1, h2, by rw [s1.length, s2.length]; exact q.1, fun p hp => k.frz e dk q.2 hp (.lst upd_same ((s1.append s2).mono (same_new (e.free hp))))⟩
  · exact q.elim
end
end ND

/-! ND3: operators, comparisons, truth, displays, items, slices -/
namespace ND
open PySem PySem.Spec L2
section
variable {B : Bs} {X : Cx} {e a b c : Expr} {es : List Expr} {f fa fb fc : GE} {pos : Pos}
theorem o_sub : OpR X (binaryOp .Sub) (LO2 B X.kn subD) := opR_by fun v u H Q ⟨F, x, y, Qd, e, dk, r1, r2, q, k⟩ => by
  unfold subD at q
  split at q
  · exact ⟨_, op_sub, _, _, r1.int, r2.int, k.here e dk q (.int _)⟩
  · exact q.elim
theorem Reps.rep {K : Kn} {F : Hp} {vs : List V} {ds : List D} (h : Reps K F vs ds) : ∀ n : Nat, Reps K F (List.replicate n vs).flatten (List.replicate n ds).flatten
  | 0 => .nil
  | n + 1 => by
    rw [List.replicate_succ, List.replicate_succ, List.flatten_cons, List.flatten_cons]
    exact h.append (Reps.rep h n)
theorem o_mul : OpR X (binaryOp .Mult) (LO2 B X.kn mulD) := opR_by fun v u H Q ⟨F, x, y, Qd, e, dk, r1, r2, q, k⟩ => by
  unfold mulD at q
  split at q
  · exact ⟨_, op_mulW, _, _, r1.int, r2.int, q.1, k.here e dk q.2 (.int _)⟩
  · obtain ⟨a, vs, rfl, h1, s1⟩ := r1.lst e
    obtain ⟨q0, q1, q2, q3⟩ := q
    have := s1.length
    exact ⟨_, op_rep, a, _, vs, rfl, r2.int, h1, by omega, q1, by rw [this]; exact q2, fun p hp => k.frz e dk q3 hp (.lst upd_same ((s1.rep _).mono (same_new (e.free hp))))⟩
  · exact q.elim
theorem o_fdiv : OpR X (binaryOp .FloorDiv) (LO2 B X.kn fdivD) := opR_by fun v u H Q ⟨F, x, y, Qd, e, dk, r1, r2, q, k⟩ => by
  unfold fdivD at q
  split at q
  · exact ⟨_, op_fdivW, _, _, r1.int, r2.int, ⟨q.1, q.2.1⟩, k.here e dk q.2.2 (.int _)⟩
  · exact q.elim
theorem o_mod : OpR X (binaryOp .Mod) (LO2 B X.kn modD) := opR_by fun v u H Q ⟨F, x, y, Qd, e, dk, r1, r2, q, k⟩ => by
  unfold modD at q
  split at q
  · exact ⟨_, op_mod, _, _, r1.int, r2.int, q.1, k.here e dk q.2 (.int _)⟩
  · exact q.elim
theorem o_pow : OpR X (binaryOp .Pow) (LO2 B X.kn powD) := opR_by fun v u H Q ⟨F, x, y, Qd, e, dk, r1, r2, q, k⟩ => by
  unfold powD at q
  split at q
  · exact ⟨_, op_pow, _, _, r1.int, r2.int, ⟨q.1, q.2.1, q.2.2.1⟩, k.here e dk q.2.2.2 (.int _)⟩
  · exact q.elim
theorem o_shl : OpR X (binaryOp .LShift) (LO2 B X.kn shlD) := opR_by fun v u H Q ⟨F, x, y, Qd, e, dk, r1, r2, q, k⟩ => by
  unfold shlD at q
  split at q
  · exact ⟨_, op_shl, _, _, r1.int, r2.int, ⟨q.1, q.2.1, q.2.2.1⟩, k.here e dk q.2.2.2 (.int _)⟩
  · exact q.elim
theorem o_and : OpR X (binaryOp .BitAnd) (LO2 B X.kn andD) := opR_by fun v u H Q ⟨F, x, y, Qd, e, dk, r1, r2, q, k⟩ => by
  unfold andD at q
  split at q
  · exact ⟨_, op_and, _, _, r1.int, r2.int, k.here e dk q (.int _)⟩
  · exact q.elim
theorem o_xor : OpR X (binaryOp .BitXor) (LO2 B X.kn xorD) := opR_by fun v u H Q ⟨F, x, y, Qd, e, dk, r1, r2, q, k⟩ => by
  unfold xorD at q
  split at q
  · exact ⟨_, op_xor, _, _, r1.int, r2.int, k.here e dk q (.int _)⟩
  · exact q.elim
theorem o_neg : UnR X (unaryOp .USub) (LO1 B X.kn negD) := unR_by fun v H Q ⟨F, x, Qd, e, dk, r1, q, k⟩ => by
  unfold negD at q
  split at q
  · exact ⟨_, un_neg, _, r1.int, k.here e dk q (.int _)⟩
  · exact q.elim

/-! ### plain data and their equality -/
mutual
def toPy : D → PyData
  | .non => .none
  | .bl b => .bool b
  | .int i => .int i
  | .str x => .str x
  | .tup xs => .tuple (toPys xs)
  | .lst xs => .list (toPys xs)
  | .dic kvs => .dict (toPyK kvs)
  | .obj _ _ => .none
  | .opq _ => .none
def toPys : List D → List PyData
  | [] => []
  | x :: xs => toPy x :: toPys xs
def toPyK : List (Key × D) → List (PyData × PyData)
  | [] => []
  | (.inl i, x) :: xs => (.int i, toPy x) :: toPyK xs
  | (.inr i, x) :: xs => (.str i, toPy x) :: toPyK xs
end
/-! plain data: no dict, no object within, at most n deep -/
mutual
def pl : Nat → D → Bool
  | _, .non => true
  | _, .bl _ => true
  | _, .int _ => true
  | _, .str x => PyData.strOk x
  | 0, .tup _ => false
  | 0, .lst _ => false
  | n + 1, .tup xs => pls n xs
  | n + 1, .lst xs => pls n xs
  | _, .dic _ => false
  | _, .obj _ _ => false
  | _, .opq _ => false
def pls : Nat → List D → Bool
  | _, [] => true
  | n, x :: xs => pl n x && pls n xs
end
theorem toPys_map : ∀ xs : List D, toPys xs = xs.map toPy
  | [] => by simp [toPys]
  | x :: xs => by simp [toPys, toPys_map xs]
theorem pls_all (n : Nat) : ∀ xs : List D, pls n xs = xs.all (pl n)
  | [] => by simp [pls]
  | x :: xs => by simp [pls, pls_all n xs]
mutual
theorem pl_shape : ∀ (n : Nat) (d : D), pl n d = true → (toPy d).canLay0 = true ∧ (toPy d).depth ≤ n
  | n, .non, _ => by simp [toPy, PyData.canLay0, PyData.depth]
  | n, .bl b, _ => by simp [toPy, PyData.canLay0, PyData.depth]
  | n, .int b, _ => by simp [toPy, PyData.canLay0, PyData.depth]
  | n, .str x, h => by
    simp only [pl] at h
    simp [toPy, PyData.canLay0, PyData.depth, h]
  | 0, .tup xs, h => by simp [pl] at h
  | 0, .lst xs, h => by simp [pl] at h
  | n + 1, .tup xs, h => by
    simp only [pl] at h
    obtain ⟨h1, h2⟩ := pls_shape n xs h
    simp only [toPy, PyData.canLay0, PyData.depth]
    exact ⟨h1, by omega⟩
  | n + 1, .lst xs, h => by
    simp only [pl] at h
    obtain ⟨h1, h2⟩ := pls_shape n xs h
    simp only [toPy, PyData.canLay0, PyData.depth]
    exact ⟨h1, by omega⟩
  | n, .dic _, h => by simp [pl] at h
  | n, .obj _ _, h => by simp [pl] at h
  | n, .opq _, h => by simp [pl] at h
theorem pls_shape : ∀ (n : Nat) (d : List D), pls n d = true → PyData.canLayAll0 (toPys d) = true ∧ PyData.depthAll (toPys d) ≤ n
  | n, [], _ => by simp [toPys, PyData.canLayAll0, PyData.depthAll]
  | n, x :: xs, h => by
    simp only [pls, Bool.and_eq_true] at h
    obtain ⟨h1, h2⟩ := pl_shape n x h.1
    obtain ⟨h3, h4⟩ := pls_shape n xs h.2
    simp only [toPys, PyData.canLayAll0, PyData.depthAll, Bool.and_eq_true]
    exact ⟨⟨h1, h3⟩, by omega⟩
end
theorem pl_shaped {d : D} (h : pl 64 d = true) : SeqAt.shaped (toPy d) = true := by
  obtain ⟨h1, h2⟩ := pl_shape 64 d h
  show ((toPy d).canLay0 && decide ((toPy d).depth ≤ 64)) = true
  rw [h1, decide_eq_true h2]
  rfl
mutual
theorem Rep.dp {K : Kn} {F H : Hp} (e : Same F H) : ∀ (n : Nat) (d : D) (v : V), pl n d = true → Rep K F v d → Dp K.K H v (toPy d)
  | _, .non, _, _, h => by cases h; simp only [toPy]; exact .non
  | _, .bl _, _, _, h => by cases h; simp only [toPy]; exact .bl _
  | _, .int _, _, _, h => by cases h; simp only [toPy]; exact .int _
  | _, .str _, _, _, h => by cases h; simp only [toPy]; exact .str _
  | 0, .tup _, _, p, h => by simp [pl] at p
  | 0, .lst _, _, p, h => by simp [pl] at p
  | n + 1, .tup xs, _, p, h => by
    simp only [pl] at p
    cases h with
    | tup h r =>
      simp only [toPy]
      exact .tup (same_t e h) (Reps.dp e n xs _ p r)
  | n + 1, .lst xs, _, p, h => by
    simp only [pl] at p
    cases h with
    | lst h r =>
      simp only [toPy]
      exact .lst (SqL.of (e _ _ h)) (Reps.dp e n xs _ p r)
  | _, .dic _, _, p, _ => by simp [pl] at p
  | _, .obj _ _, _, p, _ => by simp [pl] at p
  | _, .opq _, _, p, _ => by simp [pl] at p
theorem Reps.dp {K : Kn} {F H : Hp} (e : Same F H) : ∀ (n : Nat) (d : List D) (v : List V), pls n d = true → Reps K F v d → DpAll K.K H v (toPys d)
  | _, [], _, _, h => by cases h; simp only [toPys]; exact .nil
  | n, x :: xs, _, p, h => by
    simp only [pls, Bool.and_eq_true] at p
    cases h with
    | cons h1 h2 =>
      simp only [toPys]
      exact .cons (Rep.dp e n x _ p.1 h1) (Reps.dp e n xs _ p.2 h2)
end
theorem RepB.dp {W : WT} {K : Kn} {F H : Hp} {v : V} {d : D} (h : RepB W K F H v d) (e : Same F H) (p : pl 64 d = true) : Dp K.K H v (toPy d) := by
  rcases h with h | ⟨a, ds, vs, rfl, rfl, _, h, r⟩ | ⟨a, ds, vs, rfl, rfl, _, h, r⟩
  · exact h.dp e 64 d v p
  · simp only [pl] at p
    simp only [toPy]
    exact .lst (SqL.of h) (Reps.dp e 63 ds _ p r)
  · simp [pl] at p
/-- Python's == on plain data -/
def eqb (x y : D) : Bool := PyData.eqv (toPy x) (toPy y)
def eqD : D → D → (D → Prop) → Prop
  | .str a, .str b, Q => Q (.bl (decide (a = b)))
  | x, y, Q => pl 64 x = true ∧ pl 64 y = true ∧ Q (.bl (eqb x y))
def neD : D → D → (D → Prop) → Prop
  | .str a, .str b, Q => Q (.bl (!decide (a = b)))
  | x, y, Q => pl 64 x = true ∧ pl 64 y = true ∧ Q (.bl (!eqb x y))
theorem vstr {a b : Str} : decide (V.str a = V.str b) = decide (a = b) := by
  by_cases h : a = b
  · subst h; simp
  · rw [decide_eq_false h, decide_eq_false fun z => h (V.str.inj z)]
theorem o_eq (hu : X.A.units + 64 < cLine) : OpR X (compareOp .Eq) (LO2 B X.kn eqD) := opR_by fun v u H Q ⟨F, x, y, Qd, e, dk, r1, r2, q, k⟩ => by
  unfold eqD at q
  split at q
  · refine ⟨_, op_eq, ?_, ?_⟩
    · rw [r1.str, r2.str]; rfl
    · rw [r1.str, r2.str, vstr]; exact k.here e dk q (.bl _)
  · exact ⟨_, op_eqD hu, _, _, r1.dp e q.1, r2.dp e q.2.1, pl_shaped q.1, pl_shaped q.2.1, k.here e dk q.2.2 (.bl _)⟩
theorem o_ne (hu : X.A.units + 64 < cLine) : OpR X (compareOp .NotEq) (LO2 B X.kn neD) := opR_by fun v u H Q ⟨F, x, y, Qd, e, dk, r1, r2, q, k⟩ => by
  unfold neD at q
  split at q
  · refine ⟨_, op_ne, ?_, ?_⟩
    · rw [r1.str, r2.str]; rfl
    · rw [r1.str, r2.str, vstr]; exact k.here e dk q (.bl _)
  · exact ⟨_, op_neD hu, _, _, r1.dp e q.1, r2.dp e q.2.1, pl_shaped q.1, pl_shaped q.2.1, k.here e dk q.2.2 (.bl _)⟩
/-- in: plain data in a tuple or a list of such; a sign in a text -/
def inb (x : D) (ys : List D) : Bool := ys.any fun z => eqb z x
def inD (neg : Bool) : D → D → (D → Prop) → Prop
  | x, .tup ys, Q => pl 64 x = true ∧ pl 64 (.tup ys) = true ∧ Q (.bl (if neg then !inb x ys else inb x ys))
  | x, .lst ys, Q => pl 64 x = true ∧ pl 64 (.lst ys) = true ∧ Q (.bl (if neg then !inb x ys else inb x ys))
  | .str x, .str y, Q => ∃ c, x = ⟨#[c]⟩ ∧ Q (.bl (if neg then !decide (c ∈ y.cps.toList) else decide (c ∈ y.cps.toList)))
  | _, _, _ => False
theorem any_toPy (x : D) : ∀ ys : List D, ((toPys ys).any fun z => PyData.eqv z (toPy x)) = inb x ys
  | [] => by simp [toPys, inb]
  | y :: ys => by
    have := any_toPy x ys
    simp only [toPys, List.any_cons, this, inb, eqb]
def rInT (K : PySem.W.Frag) (neg : Bool) : R2 := fun x y H Q => ∃ d ds, Dp K H x d ∧ Dp K H y (.tuple ds) ∧ SeqAt.shaped d = true ∧ SeqAt.shaped (.tuple ds) = true ∧ Q (.bl (if neg then !(ds.any fun z => PyData.eqv z d) else ds.any fun z => PyData.eqv z d)) H
theorem op_inTup (hu : X.A.units + 65 < cLine) : OpR X (compareOp .In) (rInT X.K false) := fun _ _ _ H one all v u _ I isOne isAll ⟨d, ds, dOne, dAll, okOne, okAll, q⟩ => by
  obtain ⟨⟨_, readsOne⟩, _, readsAll⟩ := And.intro (Dp.reads I d one v dOne isOne) (Dp.reads I (.tuple ds) all u dAll isAll)
  exact SeqAt.in_tuple_reads readsAll readsOne (SeqAt.canLay_of_shaped okAll) (SeqAt.canLay_of_shaped okOne) (PyProof.Rows.room_in_shaped okOne hu) ⟨.bl _, H, I, rfl, q⟩
theorem op_notInTup (hu : X.A.units + 65 < cLine) : OpR X (compareOp .NotIn) (rInT X.K true) := fun _ _ _ H one all v u _ I isOne isAll ⟨d, ds, dOne, dAll, okOne, okAll, q⟩ => by
  obtain ⟨⟨_, readsOne⟩, _, readsAll⟩ := And.intro (Dp.reads I d one v dOne isOne) (Dp.reads I (.tuple ds) all u dAll isAll)
  exact SeqAt.notIn_tuple_reads readsAll readsOne (SeqAt.canLay_of_shaped okAll) (SeqAt.canLay_of_shaped okOne) (PyProof.Rows.room_in_shaped okOne hu) ⟨.bl _, H, I, rfl, q⟩
theorem o_in (hu : X.A.units + 65 < cLine) : OpR X (compareOp .In) (LO2 B X.kn (inD false)) := opR_by fun v u H Q ⟨F, x, y, Qd, e, dk, r1, r2, q, k⟩ => by
  unfold inD at q
  split at q
  · have d2 := r2.dp e q.2.1
    have s2 := pl_shaped q.2.1
    simp only [toPy] at d2 s2
    exact ⟨_, op_inTup hu, _, _, r1.dp e q.1, d2, pl_shaped q.1, s2, by rw [any_toPy]; exact k.here e dk q.2.2 (.bl _)⟩
  · have d2 := r2.dp e q.2.1
    have s2 := pl_shaped q.2.1
    simp only [toPy] at d2 s2
    exact ⟨_, op_inD hu, _, _, r1.dp e q.1, d2, pl_shaped q.1, s2, by rw [any_toPy]; exact k.here e dk q.2.2 (.bl _)⟩
  · obtain ⟨c, rfl, q⟩ := q
    exact ⟨_, op_in_sign, c, _, r1.str, r2.str, k.here e dk q (.bl _)⟩
  · exact q.elim
theorem o_notIn (hu : X.A.units + 65 < cLine) : OpR X (compareOp .NotIn) (LO2 B X.kn (inD true)) := opR_by fun v u H Q ⟨F, x, y, Qd, e, dk, r1, r2, q, k⟩ => by
  unfold inD at q
  split at q
  · have d2 := r2.dp e q.2.1
    have s2 := pl_shaped q.2.1
    simp only [toPy] at d2 s2
    exact ⟨_, op_notInTup hu, _, _, r1.dp e q.1, d2, pl_shaped q.1, s2, by rw [any_toPy]; exact k.here e dk q.2.2 (.bl _)⟩
  · have d2 := r2.dp e q.2.1
    have s2 := pl_shaped q.2.1
    simp only [toPy] at d2 s2
    exact ⟨_, op_notInD hu, _, _, r1.dp e q.1, d2, pl_shaped q.1, s2, by rw [any_toPy]; exact k.here e dk q.2.2 (.bl _)⟩
  · obtain ⟨c, rfl, q⟩ := q
    exact ⟨_, op_notIn_sign, c, _, r1.str, r2.str, k.here e dk q (.bl _)⟩
  · exact q.elim

/-- is: with None, two bools -/
def isD (neg : Bool) : D → D → (D → Prop) → Prop
  | .opq _, _, _ => False
  | .non, .non, Q => Q (.bl (!neg))
  | .bl a, .bl b, Q => Q (.bl (if neg then !decide (a = b) else decide (a = b)))
  | _, .non, Q => Q (.bl neg)
  | _, _, _ => False
theorem rep_ne_non {K : Kn} {W : WT} {F H : Hp} {v : V} {d : D} (h : RepB W K F H v d) (n : d ≠ .non) (n2 : ∀ u, d ≠ .opq u) : decide (v = V.non) = false := by
  refine decide_eq_false fun z => ?_
  subst z
  rcases h with h | ⟨a, ds, vs, e, _⟩ | ⟨a, ds, vs, e, _⟩
  · cases h with
    | non => exact n rfl
    | opq => exact n2 _ rfl
  · cases e
  · cases e
theorem o_is : OpR X (compareOp .Is) (LO2 B X.kn (isD false)) := opR_by fun v u H Q ⟨F, x, y, Qd, e, dk, r1, r2, q, k⟩ => by
  unfold isD at q
  split at q
  · exact q.elim
  · exact ⟨_, op_isN, r2.non, by rw [r1.non]; exact k.here e dk q (.bl _)⟩
  · exact ⟨_, op_isBl, _, _, r1.bl, r2.bl, k.here e dk q (.bl _)⟩
  · exact ⟨_, op_isN, r2.non, by rw [rep_ne_non r1 (by assumption) (by assumption)]; exact k.here e dk q (.bl _)⟩
  · exact q.elim
theorem o_isNot : OpR X (compareOp .IsNot) (LO2 B X.kn (isD true)) := opR_by fun v u H Q ⟨F, x, y, Qd, e, dk, r1, r2, q, k⟩ => by
  unfold isD at q
  split at q
  · exact q.elim
  · exact ⟨_, op_notN, r2.non, by rw [r1.non]; exact k.here e dk q (.bl _)⟩
  · exact ⟨_, op_notBl, _, _, r1.bl, r2.bl, k.here e dk q (.bl _)⟩
  · exact ⟨_, op_notN, r2.non, by rw [rep_ne_non r1 (by assumption) (by assumption)]; exact k.here e dk q (.bl _)⟩
  · exact q.elim
def ltD : D → D → (D → Prop) → Prop
  | .int i, .int j, Q => Q (.bl (decide (i < j)))
  | .str i, .str j, Q => Q (.bl (decide (i.cps.toList < j.cps.toList)))
  | _, _, _ => False
def leD : D → D → (D → Prop) → Prop
  | .int i, .int j, Q => Q (.bl (decide (i ≤ j)))
  | .str i, .str j, Q => Q (.bl (!decide (j.cps.toList < i.cps.toList)))
  | _, _, _ => False
def gtD : D → D → (D → Prop) → Prop
  | .int i, .int j, Q => Q (.bl (decide (j < i)))
  | .str i, .str j, Q => Q (.bl (decide (j.cps.toList < i.cps.toList)))
  | _, _, _ => False
def geD : D → D → (D → Prop) → Prop
  | .int i, .int j, Q => Q (.bl (decide (j ≤ i)))
  | .str i, .str j, Q => Q (.bl (!decide (i.cps.toList < j.cps.toList)))
  | _, _, _ => False
theorem o_lt : OpR X (compareOp .Lt) (LO2 B X.kn ltD) := opR_by fun v u H Q ⟨F, x, y, Qd, e, dk, r1, r2, q, k⟩ => by
  unfold ltD at q
  split at q
  · exact ⟨_, op_lt, _, _, r1.int, r2.int, k.here e dk q (.bl _)⟩
  · exact ⟨_, op_lt_str, _, _, r1.str, r2.str, k.here e dk q (.bl _)⟩
  · exact q.elim
theorem o_le : OpR X (compareOp .LtE) (LO2 B X.kn leD) := opR_by fun v u H Q ⟨F, x, y, Qd, e, dk, r1, r2, q, k⟩ => by
  unfold leD at q
  split at q
  · exact ⟨_, op_le, _, _, r1.int, r2.int, k.here e dk q (.bl _)⟩
  · exact ⟨_, op_le_str, _, _, r1.str, r2.str, k.here e dk q (.bl _)⟩
  · exact q.elim
theorem o_gt : OpR X (compareOp .Gt) (LO2 B X.kn gtD) := opR_by fun v u H Q ⟨F, x, y, Qd, e, dk, r1, r2, q, k⟩ => by
  unfold gtD at q
  split at q
  · exact ⟨_, op_gt, _, _, r1.int, r2.int, k.here e dk q (.bl _)⟩
  · exact ⟨_, op_gt_str, _, _, r1.str, r2.str, k.here e dk q (.bl _)⟩
  · exact q.elim
theorem o_ge : OpR X (compareOp .GtE) (LO2 B X.kn geD) := opR_by fun v u H Q ⟨F, x, y, Qd, e, dk, r1, r2, q, k⟩ => by
  unfold geD at q
  split at q
  · exact ⟨_, op_ge, _, _, r1.int, r2.int, k.here e dk q (.bl _)⟩
  · exact ⟨_, op_ge_str, _, _, r1.str, r2.str, k.here e dk q (.bl _)⟩
  · exact q.elim

/-! ### comparisons as values and tests; truth; and, or, not -/
variable {g g' : D → D → (D → Prop) → Prop} {ft fu : GT} {rest : List Expr}
theorem ed_cmp {op : CmpOp} (ho : OpR X (compareOp op) (LO2 B X.kn g)) (ha : BD B X a fa) (hb : BD B X b fb) (hm : behindInMarks op b = false) : ED B X (.Compare a [op] [b] pos) (gBin g fa fb) :=
  ⟨pe_imp (pe_cmpR ho ha.run hb.run hm) fun s H Q ⟨σ, F, Qd, R, q, k⟩ => lo2_of R q k⟩
/-- if, by a bool: does not open where the bool is not known -/
def iteB : Bool → Prop → Prop → Prop
  | true, p, _ => p
  | false, _, q => q
@[simp] theorem iteB_eq (b : Bool) (p q : Prop) : iteB b p q = (if b = true then p else q) := by cases b <;> simp [iteB]
/-- a value that has to be a bool, as a test -/
def isBl : D → (Bool → Prop) → Prop
  | .bl b, Q => Q b
  | _, _ => False
@[simp] theorem isBl_b (b : Bool) (Q : Bool → Prop) : isBl (.bl b) Q ↔ Q b := Iff.rfl
theorem isBl_ex {d : D} {Q : Bool → Prop} (h : isBl d Q) : ∃ b, d = .bl b ∧ Q b := by
  cases d with
  | bl b => exact ⟨b, rfl, h⟩
  | _ => exact False.elim h
theorem isBl_in {d : D} {Q : Bool → Prop} (h : ∃ b, d = .bl b ∧ Q b) : isBl d Q := by
  obtain ⟨b, rfl, q⟩ := h
  exact q
@[simp] def gB (f : GE) (σ : List SV) (Q : Bool → Prop) : Prop := f σ fun d => isBl d Q
theorem fin_b {K : Kn} {F H : Hp} {Qd : Bool → Prop} {Q : Bool → Hp → Prop} (k : FinT B F H Qd Q) : Fin B K F H (fun d => isBl d Qd) fun x H' => ∃ b, x = .bl b ∧ Q b H' := fun d q0 F' H' v g dk r => by
  obtain ⟨b, e, q⟩ := isBl_ex q0
  subst e
  cases r
  exact ⟨b, rfl, k b q F' H' g dk⟩
theorem td_cmp {op : CmpOp} (ho : OpR X (compareOp op) (LO2 B X.kn g)) (ha : BD B X a fa) (hb : BD B X b fb) (hm : behindInMarks op b = false) : TD B X (.Compare a [op] [b] pos) (gB (gBin g fa fb)) :=
  ⟨pt_imp (pt_cmpR ho ha.run hb.run hm) fun s H Q ⟨σ, F, Qd, R, q, k⟩ => lo2_of R q (fin_b k)⟩
@[simp] def gChain (g g' : D → D → (D → Prop) → Prop) (fa fb fc : GE) (σ : List SV) (Q : D → Prop) : Prop := fa σ fun x => fb σ fun y => g x y fun r => isBl r fun b => iteB b (fc σ fun z => g' y z Q) (Q (.bl false))
theorem lo_chain {K : Kn} {s : L2.St} {σ : List SV} {F H : Hp} {Qd : D → Prop} {Q : VK} (R : Rel B K σ s F H) (q : gChain g g' fa fb fc σ Qd) (k : Fin B K F H Qd Q) : tChain (LO2 B K g) (LO2 B K g') (LB B K fa) (LB B K fb) (LB B K fc) s H Q := by
  refine lb_two (R2 := fun x y H2 => LO2 B K g x y H2 fun z H3 => ∃ k, z = .bl k ∧ (if k = true then LB B K fc s H3 fun w' H4 => LO2 B K g' y w' H4 Q else Q (.bl false) H3)) R q fun x y F1 H1 v u qq g1 dk r1 r2 => ?_
  refine ⟨F1, x, y, _, g1.fh, dk, r1, r2, qq, fun d qq3 F2 H2 w g2 dk2 r3 => ?_⟩
  obtain ⟨b, e, q3⟩ := isBl_ex qq3
  subst e
  cases r3
  refine ⟨b, rfl, ?_⟩
  cases b with
  | false => exact k _ q3 F2 H2 _ (g1.trans g2) dk2 (.bl false)
  | true => exact ⟨σ, F2, _, R.grow (g1.trans g2) dk2, q3, fun z qz F3 H3 w3 g3 dk3 r4 => ⟨F3, y, z, Qd, g3.fh, dk3, r2.grow (g2.trans g3), r4, qz, k.more ((g1.trans g2).trans g3)⟩⟩
theorem ed_chain {op op' : CmpOp} (ho : OpR X (compareOp op) (LO2 B X.kn g)) (ho' : OpR X (compareOp op') (LO2 B X.kn g')) (ha : BD B X a fa) (hb : BD B X b fb) (hc : BD B X c fc)
    (hm : lastMarks [op, op'] [b, c] = false := by with_unfolding_all rfl) : ED B X (.Compare a [op, op'] [b, c] pos) (gChain g g' fa fb fc) :=
  ⟨pe_imp (pe_chain ho ho' ha.run hb.run hc.run hm) fun s H Q ⟨σ, F, Qd, R, q, k⟩ => lo_chain R q k⟩
theorem td_chain {op op' : CmpOp} (ho : OpR X (compareOp op) (LO2 B X.kn g)) (ho' : OpR X (compareOp op') (LO2 B X.kn g')) (ha : BD B X a fa) (hb : BD B X b fb) (hc : BD B X c fc)
    (hm : lastMarks [op, op'] [b, c] = false := by with_unfolding_all rfl) : TD B X (.Compare a [op, op'] [b, c] pos) (gB (gChain g g' fa fb fc)) :=
  ⟨pt_imp (pt_chain ho ho' ha.run hb.run hc.run hm) fun s H Q ⟨σ, F, Qd, R, q, k⟩ => lo_chain R q (fin_b k)⟩
/-- the truth of data -/
def truthD : D → (Bool → Prop) → Prop
  | .non, Q => Q false
  | .bl b, Q => Q b
  | .int i, Q => Q (i != 0)
  | .str x, Q => x.length ≤ sizeLine ∧ Q ((x.length : Int) != 0)
  | .tup xs, Q => Q (!xs.isEmpty)
  | .lst xs, Q => Q (!xs.isEmpty)
  | .dic kvs, Q => Q (!kvs.isEmpty)
  | _, _ => False
theorem Reps.isEmpty {K : Kn} {F : Hp} {vs : List V} {ds : List D} (h : Reps K F vs ds) : vs.isEmpty = ds.isEmpty := by cases h <;> rfl
theorem RepKs.isEmpty {K : Kn} {F : Hp} {vs : List (Key × V)} {ds : List (Key × D)} (h : RepKs K F vs ds) : vs.isEmpty = ds.isEmpty := by cases h <;> rfl
theorem truth_of {K : Kn} {W : WT} {F H : Hp} {v : V} {d : D} {Qd : Bool → Prop} (r : RepB W K F H v d) (e : Same F H) (q : truthD d Qd) : ∃ b, TruV K.K v H b ∧ Qd b := by
  unfold truthD at q
  split at q
  · rw [r.non]; exact ⟨_, rfl, q⟩
  · rw [r.bl]; exact ⟨_, rfl, q⟩
  · rw [r.int]; exact ⟨_, rfl, q⟩
  · rw [r.str]; exact ⟨_, ⟨q.1, rfl⟩, q.2⟩
  · obtain ⟨a, vs, rfl, _, h, s⟩ := r.tup e
    exact ⟨_, .inr (.inl ⟨vs, h, by rw [s.isEmpty]⟩), q⟩
  · obtain ⟨a, vs, rfl, h, s⟩ := r.lst e
    exact ⟨_, .inl ⟨vs, SqL.of h, by rw [s.isEmpty]⟩, q⟩
  · obtain ⟨a, vs, rfl, h, s⟩ := r.dic e
    exact ⟨_, .inr (.inr ⟨vs, h, by rw [s.isEmpty]⟩), q⟩
  · exact q.elim
@[simp] def gTru (f : GE) (σ : List SV) (Q : Bool → Prop) : Prop := f σ fun d => truthD d Q
theorem td_val (ha : BD B X a fa) (he : ∀ whole, isTrue a X.env whole = (do let v ← whole; standAt a.pos; holding [v] (truthy v)) := by intro _; rfl) : TD B X a (gTru fa) :=
  ⟨pt_imp (pt_truth ha.run he) fun s H Q ⟨σ, F, Qd, R, q, k⟩ => ⟨σ, F, _, R, q, fun d qd F' H' v g dk r => by
    obtain ⟨b, h1, h2⟩ := truth_of r g.fh qd
    exact ⟨b, h1, k b h2 F' H' g dk⟩⟩⟩
@[simp] def gNotT (ft : GT) (σ : List SV) (Q : Bool → Prop) : Prop := ft σ fun b => Q (!b)
theorem td_not (ha : TD B X a ft) : TD B X (.UnaryOp .Not a pos) (gNotT ft) := ⟨pt_imp (pt_not ha.run) fun s H Q ⟨σ, F, Qd, R, q, k⟩ => ⟨σ, F, _, R, q, fun b qb F' H' g dk => k _ qb F' H' g dk⟩⟩
@[simp] def gAndT (ft fu : GT) (σ : List SV) (Q : Bool → Prop) : Prop := ft σ fun b => iteB b (fu σ Q) (Q false)
@[simp] def gOrT (ft fu : GT) (σ : List SV) (Q : Bool → Prop) : Prop := ft σ fun b => iteB b (Q true) (fu σ Q)
theorem wd_and1 (ha : TD B X a ft) : WDd B X (.BoolOp .And [a] pos) ft := ⟨pw_and1 ha.run⟩
theorem wd_or1 (ha : TD B X a ft) : WDd B X (.BoolOp .Or [a] pos) ft := ⟨pw_or1 ha.run⟩
theorem wd_and (ha : TD B X a ft) (hb : WDd B X (.BoolOp .And (b :: rest) pos) fu) : WDd B X (.BoolOp .And (a :: b :: rest) pos) (gAndT ft fu) :=
  ⟨pw_imp (pw_and ha.run hb.run) fun s H Q ⟨σ, F, Qd, R, q, k⟩ => ⟨σ, F, _, R, q, fun c qc F' H' g dk => by
    cases c with
    | true => exact ⟨σ, F', Qd, R.grow g dk, qc, k.more g⟩
    | false => exact k _ qc F' H' g dk⟩⟩
theorem wd_or (ha : TD B X a ft) (hb : WDd B X (.BoolOp .Or (b :: rest) pos) fu) : WDd B X (.BoolOp .Or (a :: b :: rest) pos) (gOrT ft fu) :=
  ⟨pw_imp (pw_or ha.run hb.run) fun s H Q ⟨σ, F, Qd, R, q, k⟩ => ⟨σ, F, _, R, q, fun c qc F' H' g dk => by
    cases c with
    | false => exact ⟨σ, F', Qd, R.grow g dk, qc, k.more g⟩
    | true => exact k _ qc F' H' g dk⟩⟩
theorem WDd.t (h : WDd B X e ft) : TD B X e ft := ⟨h.run.pt⟩
/-- as values -/
@[simp] def gAnd (fa fb : GE) (σ : List SV) (Q : D → Prop) : Prop := fa σ fun x => truthD x fun b => iteB b (fb σ Q) (Q x)
@[simp] def gOr (fa fb : GE) (σ : List SV) (Q : D → Prop) : Prop := fa σ fun x => truthD x fun b => iteB b (Q x) (fb σ Q)
@[simp] def gNot (fa : GE) (σ : List SV) (Q : D → Prop) : Prop := fa σ fun x => truthD x fun b => Q (.bl (!b))
theorem ed_one {op : BoolOp} (h : ED B X a fa) : ED B X (.BoolOp op [a] pos) fa := ⟨pe_one h.run⟩
theorem ed_and (ha : ED B X a fa) (hb : ED B X (.BoolOp .And (b :: rest) pos) fb) : ED B X (.BoolOp .And (a :: b :: rest) pos) (gAnd fa fb) :=
  ⟨pe_imp (pe_andT ha.run hb.run) fun s H Q ⟨σ, F, Qd, R, q, k⟩ => ⟨σ, F, _, R, q, fun d qd F' H' v g dk r => by
    obtain ⟨c, h1, h2⟩ := truth_of (W := B.W) (.inl r) g.fh qd
    refine ⟨c, h1, ?_⟩
    cases c with
    | true => exact ⟨σ, F', Qd, R.grow g dk, h2, k.more g⟩
    | false => exact k _ h2 F' H' v g dk r⟩⟩
theorem ed_or (ha : ED B X a fa) (hb : ED B X (.BoolOp .Or (b :: rest) pos) fb) : ED B X (.BoolOp .Or (a :: b :: rest) pos) (gOr fa fb) :=
  ⟨pe_imp (pe_orT ha.run hb.run) fun s H Q ⟨σ, F, Qd, R, q, k⟩ => ⟨σ, F, _, R, q, fun d qd F' H' v g dk r => by
    obtain ⟨c, h1, h2⟩ := truth_of (W := B.W) (.inl r) g.fh qd
    refine ⟨c, h1, ?_⟩
    cases c with
    | false => exact ⟨σ, F', Qd, R.grow g dk, h2, k.more g⟩
    | true => exact k _ h2 F' H' v g dk r⟩⟩
theorem ed_not (ha : BD B X a fa) : ED B X (.UnaryOp .Not a pos) (gNot fa) :=
  ⟨pe_imp (pe_notT ha.run) fun s H Q ⟨σ, F, Qd, R, q, k⟩ => ⟨σ, F, _, R, q, fun d qd F' H' v g dk r => by
    obtain ⟨c, h1, h2⟩ := truth_of r g.fh qd
    exact ⟨c, h1, k _ h2 F' H' _ g dk (.bl _)⟩⟩⟩
@[simp] def gIf (ft : GT) (fa fb : GE) (σ : List SV) (Q : D → Prop) : Prop := ft σ fun b => iteB b (fa σ Q) (fb σ Q)
theorem ed_if (hc : TD B X c ft) (ha : ED B X a fa) (hb : ED B X b fb) : ED B X (.IfExp c a b pos) (gIf ft fa fb) :=
  ⟨pe_imp (pe_ifExp hc.run ha.run hb.run) fun s H Q ⟨σ, F, Qd, R, q, k⟩ => ⟨σ, F, _, R, q, fun d qd F' H' g dk => by
    cases d with
    | true => exact ⟨σ, F', Qd, R.grow g dk, qd, k.more g⟩
    | false => exact ⟨σ, F', Qd, R.grow g dk, qd, k.more g⟩⟩⟩
/-- borrowed either way -/
theorem bd_if (hc : TD B X c ft) (ha : BD B X a fa) (hb : BD B X b fb) : BD B X (.IfExp c a b pos) (gIf ft fa fb) :=
  ⟨pe_imp (pe_ifExp hc.run ha.run hb.run) fun s H Q ⟨σ, F, Qd, R, q, k⟩ => ⟨σ, F, _, R, q, fun d qd F' H' g dk => by
    cases d with
    | true => exact ⟨σ, F', Qd, R.grow g dk, qd, k.more g⟩
    | false => exact ⟨σ, F', Qd, R.grow g dk, qd, k.more g⟩⟩⟩

/-! ### arguments, displays -/
@[simp] def gNil (_ : List SV) (Q : List D → Prop) : Prop := Q []
@[simp] def gCons (fa : GE) (fs : GA) (σ : List SV) (Q : List D → Prop) : Prop := fa σ fun x => fs σ fun xs => Q (x :: xs)
theorem ad_nil : AD B X [] gNil := ⟨pa_imp pa_nil fun s H Q ⟨σ, F, Qd, R, q, k⟩ => k _ q F H _ (Grow.refl R.ex) R.deck .nil⟩
theorem ad_cons {fs : GA} (ha : ED B X e fa) (hr : AD B X es fs) (hs : starEach (e :: es) X.env = (false, eval e X.env) :: starEach es X.env := by rfl) : AD B X (e :: es) (gCons fa fs) :=
  ⟨pa_imp (pa_cons ha.run hr.run hs) fun s H Q ⟨σ, F, Qd, R, q, k⟩ => ⟨σ, F, _, R, q, fun d qd F1 H1 v g1 d1 r1 => ⟨σ, F1, _, R.grow g1 d1, qd, fun ds qds F2 H2 vs g2 d2 r2 => k _ qds F2 H2 _ (g1.trans g2) d2 (.cons (r1.mono g2.ff) r2)⟩⟩⟩
theorem abd_nil : ABD B X [] gNil := ⟨pa_imp pa_nil fun s H Q ⟨σ, F, Qd, R, q, k⟩ => k _ q F H _ (Grow.refl R.ex) R.deck .nil⟩
theorem abd_cons {fs : GA} (ha : BD B X e fa) (hr : ABD B X es fs) (hs : starEach (e :: es) X.env = (false, eval e X.env) :: starEach es X.env := by rfl) : ABD B X (e :: es) (gCons fa fs) :=
  ⟨pa_imp (pa_cons ha.run hr.run hs) fun s H Q ⟨σ, F, Qd, R, q, k⟩ => ⟨σ, F, _, R, q, fun d qd F1 H1 v g1 d1 r1 => ⟨σ, F1, _, R.grow g1 d1, qd, fun ds qds F2 H2 vs g2 d2 r2 => k _ qds F2 H2 _ (g1.trans g2) d2 (.cons (r1.grow g2) r2)⟩⟩⟩
@[simp] def gTup (fs : GA) (σ : List SV) (Q : D → Prop) : Prop := fs σ fun xs => xs.length ≤ sizeLine ∧ Q (.tup xs)
@[simp] def gLst (fs : GA) (σ : List SV) (Q : List D → Prop) : Prop := fs σ fun xs => xs.length ≤ sizeLine ∧ Q xs
theorem ed_tup {fs : GA} {x1} (h : AD B X es fs) : ED B X (.Tuple es x1 pos) (gTup fs) :=
  ⟨pe_imp (pe_tup h.run) fun s H Q ⟨σ, F, Qd, R, q, k⟩ => ⟨σ, F, _, R, q, fun ds qd F1 H1 vs g1 d1 r1 => ⟨by rw [r1.length]; exact qd.1, fun p hp =>
    (k.more g1).frz g1.fh d1 qd.2 hp (.tup (SqT.of upd_same) (r1.mono (same_new (g1.fh.free hp))))⟩⟩⟩
theorem fd_lst {fs : GA} (h : AD B X es fs) : FD B X (.List es pos) (gLst fs) :=
  ⟨pe_imp (pe_lst h.run) fun s H Q ⟨σ, F, Qd, R, q, k⟩ => ⟨σ, F, _, R, q, fun ds qd F1 H1 vs g1 d1 r1 => ⟨by rw [r1.length]; exact qd.1, fun p hp => (k.more g1).laid g1.fh d1 qd.2 hp r1⟩⟩⟩

/-! ### items -/
def look {κ : Type} [BEq κ] (kvs : List (κ × D)) (k : κ) : Option D := kvs.lookup k
def ixD : D → D → (D → Prop) → Prop
  | .tup xs, .int i, Q => ∃ x, atI xs i = some x ∧ Q x
  | .lst xs, .int i, Q => ∃ x, atI xs i = some x ∧ Q x
  | .str z, .int i, Q => z.length ≤ sizeLine ∧ ∃ c, atI z.cps.toList i = some c ∧ Q (.str ⟨#[c]⟩)
  | _, _, _ => False
theorem Reps.atI {K : Kn} {F : Hp} {vs : List V} {ds : List D} {i : Int} {x : D} (h : Reps K F vs ds) (e : L2.atI ds i = some x) : ∃ v, L2.atI vs i = some v ∧ Rep K F v x := by
  unfold L2.atI at e ⊢
  rw [h.length]
  cases q : ixN ds.length i with
  | none =>
    rw [q] at e
    cases e
  | some j =>
    rw [q] at e
    obtain ⟨v, h1, h2⟩ := h.get (i := j) (x := x) e
    exact ⟨v, h1, h2⟩
theorem ixR_by {r' : R2} (w : ∀ v u H Q, r' v u H Q → ∃ r, IxR X r ∧ r v u H Q) : IxR X r' := fun vl sl pins s σ H x y v u Q I rx ry h hs => by
  obtain ⟨r, h1, h2⟩ := w _ _ _ _ h
  exact h1 vl sl pins s σ H x y v u Q I rx ry h2 hs
theorem o_ix : IxR X (LO2 B X.kn ixD) := ixR_by fun v u H Q ⟨F, x, y, Qd, e, dk, r1, r2, q, k⟩ => by
  unfold ixD at q
  split at q
  · obtain ⟨a, vs, rfl, _, h, s⟩ := r1.tup e
    obtain ⟨x, h1, q⟩ := q
    obtain ⟨w, h2, h3⟩ := s.atI h1
    exact ⟨_, ix_tup, a, vs, _, w, rfl, r2.int, h, h2, k.here e dk q h3⟩
  · obtain ⟨a, vs, rfl, h, s⟩ := r1.lst e
    obtain ⟨x, h1, q⟩ := q
    obtain ⟨w, h2, h3⟩ := s.atI h1
    exact ⟨_, ix_list, a, vs, _, w, rfl, r2.int, SqL.of h, h2, k.here e dk q h3⟩
  · obtain ⟨z, c, h1, q⟩ := q
    exact ⟨_, ix_str, _, _, c, r1.str, r2.int, z, h1, k.here e dk q (.str _)⟩
  · exact q.elim
theorem ed_ix (ha : BD B X a fa) (hb : BD B X b fb) (hs : PlainIx b := by exact fun _ _ => rfl) : ED B X (.Subscript a b pos) (gBin ixD fa fb) :=
  ⟨pe_imp (pe_ix o_ix ha.run hb.run hs) fun s H Q ⟨σ, F, Qd, R, q, k⟩ => lo2_of R q k⟩

/-! ### slices -/
abbrev GO := List SV → (Option Int → Prop) → Prop
def LO (B : Bs) (K : Kn) (f : GO) : TO := fun s H Q => ∃ σ F Qd, Rel B K σ s F H ∧ f σ Qd ∧ ∀ o, Qd o → ∀ F' H', Grow B.W F H F' H' → DeckIn B.W F' H' → Q o H'
structure OD (B : Bs) (X : Cx) (e : Option Expr) (f : GO) : Prop where
  run : PO X e (LO B X.kn f)
theorem po_imp {e : Option Expr} {t t' : TO} (h : PO X e t) (w : ∀ s H Q, t' s H Q → t s H Q) : PO X e t' := ⟨fun pins s σ H Q I q => h.run pins s σ H Q I (w _ _ _ q)⟩
@[simp] def gNoPart (_ : List SV) (Q : Option Int → Prop) : Prop := Q none
def unI (d : D) (Q : Int → Prop) : Prop := ∃ i, d = .int i ∧ Q i
@[simp] theorem unI_i (b : Int) (Q : Int → Prop) : unI (.int b) Q ↔ Q b := ⟨fun ⟨_, e, q⟩ => by cases e; exact q, fun q => ⟨b, rfl, q⟩⟩
@[simp] def gPart (fa : GE) (σ : List SV) (Q : Option Int → Prop) : Prop := fa σ fun d => unI d fun i => Q (some i)
theorem od_none : OD B X none gNoPart := ⟨po_imp po_none fun s H Q ⟨σ, F, Qd, R, q, k⟩ => k _ q F H (Grow.refl R.ex) R.deck⟩
theorem od_some (ha : ED B X a fa) : OD B X (some a) (gPart fa) := ⟨po_imp (po_some ha.run) fun s H Q ⟨σ, F, Qd, R, q, k⟩ => ⟨σ, F, _, R, q, fun d ⟨i, e, q⟩ F' H' v g dk r => by
  subst e
  cases r
  exact ⟨i, rfl, k _ q F' H' g dk⟩⟩⟩
def cutG {α : Type} (xs : List α) (lo hi : Option Int) : List α := (xs.drop (HT.sIx xs.length 0 lo)).take (HT.sIx xs.length xs.length hi - HT.sIx xs.length 0 lo)
theorem Reps.cut {K : Kn} {F : Hp} {vs : List V} {ds : List D} (h : Reps K F vs ds) (lo hi : Option Int) : Reps K F (cutV vs lo hi) (cutG ds lo hi) := by
  unfold cutV cutG
  rw [h.length]
  exact (h.drop _).take _
def slD : D → Option Int → Option Int → (D → Prop) → Prop
  | .tup xs, lo, hi, Q => Q (.tup (cutG xs lo hi))
  | .lst xs, lo, hi, Q => Q (.lst (cutG xs lo hi))
  | .str z, lo, hi, Q => z.length ≤ sizeLine ∧ Q (.str (cutS z lo hi))
  | _, _, _, _ => False
def LSl (B : Bs) (K : Kn) (g : D → Option Int → Option Int → (D → Prop) → Prop) : V → Option Int → Option Int → Hp → VK → Prop := fun v lo hi H Q => ∃ F x Qd, Same F H ∧ DeckIn B.W F H ∧ RepB B.W K F H v x ∧ g x lo hi Qd ∧ Fin B K F H Qd Q
theorem slR_by {r' : V → Option Int → Option Int → Hp → VK → Prop} (w : ∀ v l h H Q, r' v l h H Q → ∃ r, SlR X r ∧ r v l h H Q) : SlR X r' := by
  intro pins s σ H x v vl vu lo hi sl Q I rx hs p1 p2 h
  obtain ⟨r, h1, h2⟩ := w _ _ _ _ _ h
  exact h1 pins s σ H x v vl vu lo hi sl Q I rx hs p1 p2 h2
theorem sIx_zero_full {α : Type} (xs : List α) (lo hi : Option Int) (h : HT.sIx xs.length 0 lo = 0 ∧ HT.sIx xs.length xs.length hi = xs.length) : cutG xs lo hi = xs := by
  unfold cutG
  rw [h.1, h.2]
  simp
theorem o_sl : SlR X (LSl B X.kn slD) := slR_by fun v lo hi H Q ⟨F, x, Qd, e, dk, r1, q, k⟩ => by
  unfold slD at q
  split at q
  · obtain ⟨a, vs, rfl, f1, h, s⟩ := r1.tup e
    refine ⟨_, sl_tupA, a, vs, rfl, h, fun z => ?_, fun z p hp => ?_⟩
    · rw [s.length] at z
      rw [sIx_zero_full _ _ _ z] at q
      exact k.here e dk q (.tup f1 s)
    · exact k.frz e dk q hp (.tup (SqT.of upd_same) ((s.cut _ _).mono (same_new (e.free hp))))
  · obtain ⟨a, vs, rfl, h, s⟩ := r1.lst e
    exact ⟨_, sl_list, a, vs, rfl, SqL.of h, fun p hp => k.frz e dk q hp (.lst upd_same ((s.cut _ _).mono (same_new (e.free hp))))⟩
  · exact ⟨_, sl_str, _, r1.str, q.1, k.here e dk q.2 (.str _)⟩
  · exact q.elim
@[simp] def gSl (g : D → Option Int → Option Int → (D → Prop) → Prop) (fa : GE) (fl fh : GO) (σ : List SV) (Q : D → Prop) : Prop := fa σ fun x => fl σ fun l => fh σ fun h => g x l h Q
theorem ed_sl {lo hi : Option Expr} {fl fh : GO} {p2 : Pos} (ha : BD B X a fa) (hl : OD B X lo fl) (hh : OD B X hi fh) : ED B X (.Subscript a (.Slice lo hi none p2) pos) (gSl slD fa fl fh) :=
  ⟨pe_imp (pe_slice o_sl ha.run hl.run hh.run) fun s H Q ⟨σ, F, Qd, R, q, k⟩ => ⟨σ, F, _, R, q, fun x qx F1 H1 v g1 d1 r1 => ⟨σ, F1, _, R.grow g1 d1, qx, fun l ql F2 H2 g2 d2 =>
    ⟨σ, F2, _, R.grow (g1.trans g2) d2, ql, fun h qh F3 H3 g3 d3 => ⟨F3, x, Qd, g3.fh, d3, (r1.grow g2).grow g3, qh, k.more ((g1.trans g2).trans g3)⟩⟩⟩⟩⟩
/-- a slice of a list, a new list of one's own -/
def slF : D → Option Int → Option Int → (List D → Prop) → Prop
  | .lst xs, lo, hi, Q => Q (cutG xs lo hi)
  | _, _, _, _ => False
def LSlF (B : Bs) (K : Kn) (g : D → Option Int → Option Int → (List D → Prop) → Prop) : V → Option Int → Option Int → Hp → VK → Prop := fun v lo hi H Q => ∃ F x Qd, Same F H ∧ DeckIn B.W F H ∧ RepB B.W K F H v x ∧ g x lo hi Qd ∧ FinF B K F H Qd Q
theorem o_slF : SlR X (LSlF B X.kn slF) := slR_by fun v lo hi H Q ⟨F, x, Qd, e, dk, r1, q, k⟩ => by
  unfold slF at q
  split at q
  · obtain ⟨a, vs, rfl, h, s⟩ := r1.lst e
    exact ⟨_, sl_list, a, vs, rfl, SqL.of h, fun p hp => k.laid e dk q hp (s.cut _ _)⟩
  · exact q.elim
@[simp] def gSlF (g : D → Option Int → Option Int → (List D → Prop) → Prop) (fa : GE) (fl fh : GO) (σ : List SV) (Q : List D → Prop) : Prop := fa σ fun x => fl σ fun l => fh σ fun h => g x l h Q
theorem fd_sl {lo hi : Option Expr} {fl fh : GO} {p2 : Pos} (ha : BD B X a fa) (hl : OD B X lo fl) (hh : OD B X hi fh) : FD B X (.Subscript a (.Slice lo hi none p2) pos) (gSlF slF fa fl fh) :=
  ⟨pe_imp (pe_slice o_slF ha.run hl.run hh.run) fun s H Q ⟨σ, F, Qd, R, q, k⟩ => ⟨σ, F, _, R, q, fun x qx F1 H1 v g1 d1 r1 => ⟨σ, F1, _, R.grow g1 d1, qx, fun l ql F2 H2 g2 d2 =>
    ⟨σ, F2, _, R.grow (g1.trans g2) d2, ql, fun h qh F3 H3 g3 d3 => ⟨F3, x, Qd, g3.fh, d3, (r1.grow g2).grow g3, qh, k.more ((g1.trans g2).trans g3)⟩⟩⟩⟩⟩
/-- xs[::-1] of a list -/
def unL (d : D) (Q : List D → Prop) : Prop := ∃ xs, d = .lst xs ∧ Q xs
@[simp] theorem unL_l (b : List D) (Q : List D → Prop) : unL (.lst b) Q ↔ Q b := ⟨fun ⟨_, e, q⟩ => by cases e; exact q, fun q => ⟨b, rfl, q⟩⟩
@[simp] def gRev (fa : GE) (σ : List SV) (Q : List D → Prop) : Prop := fa σ fun d => unL d fun xs => Q xs.reverse
theorem fd_rev {k : Nat} {p1 p2 p3 : Pos} (ha : BD B X a fa) : FD B X (.Subscript a (.Slice none none (some (.UnaryOp .USub (.Constant (.int 1) k p1) p2)) p3) pos) (gRev fa) :=
  ⟨pe_imp (pe_revL ha.run) fun s H Q ⟨σ, F, Qd, R, q, k⟩ => ⟨σ, F, _, R, q, fun d ⟨xs, e, qx⟩ F1 H1 v g1 d1 r1 => by
    subst e
    obtain ⟨a, vs, rfl, h, s⟩ := r1.lst g1.fh
    exact ⟨a, vs, rfl, SqL.of h, fun p hp => (k.more g1).laid g1.fh d1 qx hp s.reverse⟩⟩⟩
/-- list + list, list * n: new lists of one's own -/
def catF : D → D → (List D → Prop) → Prop
  | .lst xs, .lst ys, Q => xs.length + ys.length ≤ sizeLine ∧ Q (xs ++ ys)
  | _, _, _ => False
def repF : D → D → (List D → Prop) → Prop
  | .lst xs, .int k, Q => 0 ≤ k ∧ k < 2 ^ 63 ∧ xs.length * k.toNat ≤ sizeLine ∧ Q (List.replicate k.toNat xs).flatten
  | _, _, _ => False
def LOF (B : Bs) (K : Kn) (g : D → D → (List D → Prop) → Prop) : R2 := fun v u H Q => ∃ F x y Qd, Same F H ∧ DeckIn B.W F H ∧ RepB B.W K F H v x ∧ RepB B.W K F H u y ∧ g x y Qd ∧ FinF B K F H Qd Q
@[simp] def gBinF (g : D → D → (List D → Prop) → Prop) (fa fb : GE) (σ : List SV) (Q : List D → Prop) : Prop := fa σ fun x => fb σ fun y => g x y Q
theorem o_catF : OpR X (binaryOp .Add) (LOF B X.kn catF) := opR_by fun v u H Q ⟨F, x, y, Qd, e, dk, r1, r2, q, k⟩ => by
  unfold catF at q
  split at q
  · obtain ⟨a, vs, rfl, h1, s1⟩ := r1.lst e
    obtain ⟨b, us, rfl, h2, s2⟩ := r2.lst e
    exact ⟨_, op_cat, a, b, vs, us, rfl, rfl, h1, h2, by rw [s1.length, s2.length]; exact q.1, fun p hp => k.laid e dk q.2 hp (s1.append s2)⟩
  · exact q.elim
theorem o_repF : OpR X (binaryOp .Mult) (LOF B X.kn repF) := opR_by fun v u H Q ⟨F, x, y, Qd, e, dk, r1, r2, q, k⟩ => by
  unfold repF at q
  split at q
  · obtain ⟨a, vs, rfl, h1, s1⟩ := r1.lst e
    obtain ⟨q0, q1, q2, q3⟩ := q
    exact ⟨_, op_rep, a, _, vs, rfl, r2.int, h1, by omega, q1, by rw [s1.length]; exact q2, fun p hp => k.laid e dk q3 hp (s1.rep _)⟩
  · exact q.elim
theorem fd_bin {op : Operator} {g : D → D → (List D → Prop) → Prop} (ho : OpR X (binaryOp op) (LOF B X.kn g)) (ha : BD B X a fa) (hb : BD B X b fb) : FD B X (.BinOp a op b pos) (gBinF g fa fb) :=
  ⟨pe_imp (pe_op ho ha.run hb.run) fun s H Q ⟨σ, F, Qd, R, q, k⟩ => lb_two (Qd := fun x y => g x y Qd) R q fun x y F' H' v u q g' d r1 r2 => ⟨F', x, y, Qd, g'.fh, d, r1, r2, q, k.more g'⟩⟩
end
end ND

/-! ND4: what a def promises, by data; calls -/
namespace ND
open PySem PySem.Spec L2
open PyProof.Rows (envOfC)

/-- an error: its class's name, its attributes -/
structure Er where
  nm : Str
  fs : List (Str × D)
/-- the exception of the class c with the dict o -/
def RepEr (K : Kn) (F H : Hp) (c : Value) (o : Option Addr) (er : Er) : Prop :=
  K.mg er.nm = some c ∧ (er.fs ≠ [] → ∃ a vs, o = some a ∧ H a = some (.xd vs) ∧ RepFs K F vs er.fs) ∧ (er.fs = [] → o = none)
/-- what a def promises: the deck, the arguments, what is wanted of the answer, of an error -/
abbrev DSp := WD → List D → (D → Prop) → (Er → Prop) → Prop
def FinE (W : WT) (K : Kn) (F H : Hp) (Rd : Er → Prop) (E : XK) : Prop := ∀ er, Rd er → ∀ F' H' c o, Grow W F H F' H' → DeckIn W F' H' → RepEr K F' H' c o er → E c o H'
theorem FinE.more {W : WT} {K : Kn} {F H F' H' : Hp} {Rd : Er → Prop} {E : XK} (h : FinE W K F H Rd E) (g : Grow W F H F' H') : FinE W K F' H' Rd E := fun er q F2 H2 c o g2 d r => h er q F2 H2 c o (g.trans g2) d r
theorem FinE.none {W : WT} {K : Kn} {F H : Hp} : FinE W K F H (fun _ => False) E0 := fun _ q _ _ _ _ _ _ _ => q
def liftSp (K : Kn) (T : List (Addr × Str)) (sp : DSp) : Sp := fun vs H Q E => ∃ (W : WD) (F : Hp) (ds : List D) (Qd : D → Prop) (Rd : Er → Prop), Same F H ∧ DeckIn ⟨W, T⟩ F H ∧ Reps K F vs ds ∧ sp W ds Qd Rd ∧ Fin ⟨⟨W, T⟩, F, H⟩ K F H Qd Q ∧ FinE ⟨W, T⟩ K F H Rd E

/-- as FnOk, where nothing is being shown around -/
structure FnG (P : Program) (w : World) (K : PySem.W.Frag) (mg : Str → Option Value) (base : Heap) (k : Nat) (f : Addr) (fd : FuncData) (ps : List Str) (sp : Sp) : Prop where
  len : ∀ vs H Q E, sp vs H Q E → vs.length = ps.length
  run : ∀ (A : Around) (outer : List Env) (s : Shared) (H : Hp) (args : Args) (us : List Value) (vs : List V) (Q : VK) (E : XK), A.guards = some [] → Room k A → Env0 P w K mg base A outer s H → BindsTo s fd args (ps.zip us) → Vals vs us → sp vs H Q E →
    codeAny (model P w) A (.call (.ref f) args) (CR (L2.CX P w) outer P w H s Q E) s
theorem FnG.of {P : Program} {w : World} {K : PySem.W.Frag} {mg : Str → Option Value} {base : Heap} {k : Nat} {f : Addr} {fd : FuncData} {ps : List Str} {sp : Sp} (F : FnOk P w K mg base (L2.CX P w) k f fd ps sp) : FnG P w K mg base k f fd ps sp :=
  ⟨F.len, fun A outer s H args us vs Q E _ => F.run A outer s H args us vs Q E⟩
section
variable {P : Program} {w : World} {K : PySem.W.Frag} {mg : Str → Option Value} {base : Heap} {k : Nat} {f : Addr} {qual name : Str} {scope : Scope} {cdv : Value} {N ps : List Str}
/-- how a body ends is how its call ends -/
theorem ends_call {A : Around} {outer : List Env} {s z : Shared} {H : Hp} {E : XK} {Q : VK} : ∀ {fl : Flow}, SP (cxOf (L2.CX P w) P w K mg base N qual scope f cdv A outer s H E) [] { nx := fun _ G => Q .non G, rt := Q } fl z →
    match fl with | .ret u => CE outer P w H s Q u z | .next => CE outer P w H s Q .none z | _ => False
  | .next, ⟨_, G, I, q⟩ => ⟨.non, G, I.os, I.bare, I.base, I.hok, rfl, q⟩
  | .ret _, ⟨v, _, G, I, r, q⟩ => ⟨v, G, I.os, I.bare, I.base, I.hok, r, q⟩
  | .brk, ⟨_, _, _, q⟩ => q
  | .cont, ⟨_, _, _, q⟩ => q
theorem par_kinds (S : FnScope N ps scope) {us : List Value} {n : Nat} : ∀ y ∈ ps.zip us, scope.names.lookup y.1 = some .local ∨ (scope.names.lookup y.1 = some .cell ∧ ((cellsFrom n scope.names []).lookup y.1).isSome = true) :=
  fun y hy => (S.par y.1 (List.of_mem_zip (show (y.1, y.2) ∈ _ from hy)).1).imp id fun q => ⟨q, PySem.W.cellsFrom_some _ _ _ (.inl q)⟩
/-- a def by its body, where nothing is being shown around -/
theorem fn_ofG {params : Arguments} {body : List Stmt} {dV kV doc pm ct oc : Value} {an od : Option Addr} {osl : Array (Option Value)} {sp : Sp}
    (at_f : K.lookup f = some ⟨oc, od, .func (PySem.W.fnOf name qual params body scope dV kV doc pm an cdv ct), osl⟩) (code : PySem.W.codeIn K cdv qual = true) (S : FnScope N ps scope) (cnt : ∀ vs H Q E, sp vs H Q E → vs.length = ps.length)
    (walk : ∀ (A : Around) (outer : List Env) (s : Shared) (H : Hp) (vs : List V) (Q : VK) (E : XK), (A.deeper (envOfC qual scope s.heap.objs.size f cdv)).guards = some [] → Room k (A.deeper (envOfC qual scope s.heap.objs.size f cdv)) → sp vs H Q E →
      ∃ t, PSs (cxOf (L2.CX P w) P w K mg base N qual scope f cdv A outer s H E) body t ∧ t { nx := fun _ G => Q .non G, rt := Q } (start N vs) H) :
    FnG P w K mg base (k + 1) f (PySem.W.fnOf name qual params body scope dV kV doc pm an cdv ct) ps sp :=
  ⟨cnt, fun A outer s H args us vs Q E quiet room env bound vals want => by
    have stands : ∀ b o, base.get? b = some o → s.heap.get? b = some o := fun b o e => (env.bs b o e).1
    have inK := env.mod.kin.keeps stands
    obtain ⟨t, does, goal⟩ := walk A outer s H vs Q E quiet (room.deeper _) want
    exact codeAny_call_function room.depth (inK _ _ at_f) rfl S.co S.gen rfl (PySem.W.codeRec_of inK code) (bound _ _ _ _ (wpAny_newFunctionEnv_cells S.kind (par_kinds S) fun e same z entered => by
      cases same
      exact ⟨(env.mod.nolimit.keeps stands).keeps entered.toInCall.keep, codeAny_func (wpAny_mono (does.run [] z (start N vs) H _ (inv_start S room.hd env (cnt _ _ _ _ want) vals entered) goal)
        (fun fl z2 q => by
          have r := ends_call q
          cases fl <;> first | exact r | exact r.elim) fun _ _ q => q)⟩))⟩
end

/-! ### calls of a def of the module, by position -/
@[simp] def gCall (sp : DSp) (W : WD) (R : Er → Prop) (fs : GA) (σ : List SV) (Q : D → Prop) : Prop := fs σ fun ds => sp W ds Q R
section
variable {B : Bs} {X : Cx} {k : Nat} {f : Addr} {fd : FuncData} {ps : List Str} {sp : DSp} {R : Er → Prop} {E : XK} {x : Str} {p pos : Pos} {e : Expr} {es : List Expr} {fs : GA}
theorem la_call {s : L2.St} {σ : List SV} {F H : Hp} {Qd : D → Prop} {Q : VK} {K : Kn} (hE : FinE B.W K B.F B.H R E) (Rl : Rel B K σ s F H) (q : gCall sp B.W.p R fs σ Qd) (kf : Fin B K F H Qd Q) : LA B K fs s H fun vs H1 => liftSp K B.W.T sp (vs ++ []) H1 Q E :=
  ⟨σ, F, _, Rl, q, fun ds qds F1 H1 vs g1 d1 r1 => ⟨B.W.p, F1, ds, Qd, R, g1.fh, d1, by rw [List.append_nil]; exact r1, qds, fun d qd F2 H2 v g2 d2 r2 => kf d qd F2 H2 v (g1.trans g2) d2 r2, hE.more (Rl.base.trans g1)⟩⟩
theorem ed_call (G : FnOk X.prog X.w X.K X.mg X.base (L2.CX X.prog X.w) k f fd ps (liftSp X.kn B.W.T sp)) (hr : Room k X.A) (hg : Gl X x) (hm : X.mg x = some (.ref f)) (hk : PySem.W.keepIn X.K (.ref f) = true) (hb : Binds X.K fd ps []) (hx : Passes (L2.CX X.prog X.w) X E) (hE : FinE B.W X.kn B.F B.H R E)
    (ha : AD B X (e :: es) fs) (hdb : (x == ("__debug__" : Str)) = false := by decide) (he : starEach (e :: es) X.env = (false, eval e X.env) :: starEach es X.env := by rfl) (hpl : (backTo pos (starEach es X.env)).any (·.1) = false := by rfl) :
    ED B X (.Call (.Name x p) (e :: es) [] pos) (gCall sp B.W.p R fs) :=
  ⟨pe_imp (pe_call G hr hg hm hk hb .nil hx ha.run hdb he hpl) fun s H Q ⟨σ, F, Qd, Rl, q, kf⟩ => la_call hE Rl q kf⟩
theorem ed_call0 (G : FnOk X.prog X.w X.K X.mg X.base (L2.CX X.prog X.w) k f fd ps (liftSp X.kn B.W.T sp)) (hr : Room k X.A) (hg : Gl X x) (hm : X.mg x = some (.ref f)) (hk : PySem.W.keepIn X.K (.ref f) = true) (hb : Binds X.K fd ps []) (hx : Passes (L2.CX X.prog X.w) X E) (hE : FinE B.W X.kn B.F B.H R E)
    (hdb : (x == ("__debug__" : Str)) = false := by decide) : ED B X (.Call (.Name x p) [] [] pos) (gCall sp B.W.p R gNil) :=
  ⟨pe_imp (pe_call0 G hr hg hm hk hb .nil hx hdb) fun s H Q ⟨σ, F, Qd, Rl, q, kf⟩ => ⟨B.W.p, F, [], Qd, R, Rl.ex, Rl.deck, .nil, q, fun d qd F2 H2 v g2 d2 r2 => kf d qd F2 H2 v g2 d2 r2, hE.more Rl.base⟩⟩
/-- a call's end, back in the caller -/
theorem back_in {pins : List (Addr × Obj)} {σ : L2.St} {H : Hp} {s z : Shared} {Q : VK} (I : Inv X pins σ H s) (lets : Passes (L2.CX X.prog X.w) X E) : ∀ {r : Result}, CR (L2.CX X.prog X.w) X.stack X.prog X.w H s Q E r z →
    match r with | .ok (.ret u) => EP X pins σ Q u z | .ok _ => False | .error e => X.xe e z
  | .ok (.ret _), h => I.after h
  | .ok .next, h => h
  | .ok .brk, h => h
  | .ok .cont, h => h
  | .error _, h => lets _ _ _ _ _ _ I h
theorem pe_callG {sp : Sp} {t : TA} (F : FnG X.prog X.w X.K X.mg X.base k f fd ps sp) (quiet : X.A.guards = some []) (room : Room k X.A) (glob : Gl X x) (isf : X.mg x = some (.ref f)) (kept : PySem.W.keepIn X.K (.ref f) = true) (bind : Binds X.K fd ps []) (lets : Passes (L2.CX X.prog X.w) X E) (args : PA X (e :: es) t)
    (ndb : (x == ("__debug__" : Str)) = false := by decide) (star : starEach (e :: es) X.env = (false, eval e X.env) :: starEach es X.env := by rfl) (plain : (backTo pos (starEach es X.env)).any (·.1) = false := by rfl) :
    PE X (.Call (.Name x p) (e :: es) [] pos) (fun σ H Q => t σ H fun vs G => sp vs G Q E) :=
  ⟨fun pins s σ H Q I h => wpAny_Call_Name_kw (ld_glob I glob isf (PySem.W.callWith_K (h₀ := X.base) I.ok.mod.kin kept (thn (args.run pos pins s σ H _ I h) fun us z ⟨vs, G, J, vals, q⟩ => ⟨J.kIn, by
    have n : us.length = ps.length := (Vals.length vals).symm.trans (F.len _ _ _ _ q)
    have bd := bind z us J.kIn (by rw [List.append_nil]; exact n)
    rw [List.append_nil] at bd
    refine wpAny_call (codeAny_mono (F.run X.A X.stack z G ⟨us, []⟩ us vs Q E quiet room J.env0 bd vals q) fun r z2 o => ?_)
    have b := back_in J lets o
    rcases r with _ | fl
    · exact b
    · cases fl <;> first | exact b | exact b.elim⟩) star plain) ndb)⟩
theorem ed_callG (G : FnG X.prog X.w X.K X.mg X.base k f fd ps (liftSp X.kn B.W.T sp)) (hG : X.A.guards = some []) (hr : Room k X.A) (hg : Gl X x) (hm : X.mg x = some (.ref f)) (hk : PySem.W.keepIn X.K (.ref f) = true) (hb : Binds X.K fd ps []) (hx : Passes (L2.CX X.prog X.w) X E) (hE : FinE B.W X.kn B.F B.H R E)
    (ha : AD B X (e :: es) fs) (hdb : (x == ("__debug__" : Str)) = false := by decide) (he : starEach (e :: es) X.env = (false, eval e X.env) :: starEach es X.env := by rfl) (hpl : (backTo pos (starEach es X.env)).any (·.1) = false := by rfl) :
    ED B X (.Call (.Name x p) (e :: es) [] pos) (gCall sp B.W.p R fs) :=
  ⟨pe_imp (pe_callG G hG hr hg hm hk hb hx ha.run hdb he hpl) fun s H Q ⟨σ, F, Qd, Rl, q, kf⟩ => by
    have z := la_call (s := s) (Q := Q) hE Rl q kf
    simpa using z⟩

/-! ### by keywords: n positional values, m by keyword, put in the order pm -/
def permA {α : Type} (n m : Nat) (pm : List Nat) (us ws : List α) : List α := if us.length = n ∧ ws.length = m then pm.filterMap fun i => (us ++ ws)[i]? else []
theorem paired_app {α β : Type} {R : α → β → Prop} : ∀ {a c : List α} {b d : List β}, Paired R a b → Paired R c d → Paired R (a ++ c) (b ++ d)
  | _, _, _, _, .nil, h => h
  | _, _, _, _, .cons r t, h => .cons r (paired_app t h)
theorem paired_at {α β : Type} {R : α → β → Prop} : ∀ {a : List α} {b : List β} (i : Nat), Paired R a b → (a[i]? = none ∧ b[i]? = none) ∨ ∃ x y, a[i]? = some x ∧ b[i]? = some y ∧ R x y
  | _, _, _, .nil => .inl ⟨by simp, by simp⟩
  | _, _, 0, .cons r _ => .inr ⟨_, _, rfl, rfl, r⟩
  | _, _, i + 1, .cons _ t => by simpa using paired_at i t
theorem paired_pick {α β : Type} {R : α → β → Prop} {a : List α} {b : List β} (h : Paired R a b) : ∀ pm : List Nat, Paired R (pm.filterMap fun i => a[i]?) (pm.filterMap fun i => b[i]?)
  | [] => .nil
  | i :: pm => by
    rw [List.filterMap_cons, List.filterMap_cons]
    rcases paired_at i h with ⟨e1, e2⟩ | ⟨x, y, e1, e2, r⟩
    · rw [e1, e2]
      exact paired_pick h pm
    · rw [e1, e2]
      exact .cons r (paired_pick h pm)
theorem paired_len {α β : Type} {R : α → β → Prop} {a : List α} {b : List β} (h : Paired R a b) : a.length = b.length := Paired.length h
theorem paired_perm {α β : Type} {R : α → β → Prop} {n m : Nat} {pm : List Nat} {us ws : List α} {us' ws' : List β} (h : Paired R us us') (h' : Paired R ws ws') : Paired R (permA n m pm us ws) (permA n m pm us' ws') := by
  unfold permA
  rw [paired_len h, paired_len h']
  split
  · exact paired_pick (paired_app h h') pm
  · exact .nil
theorem Reps.pair {K : Kn} {F : Hp} : ∀ {vs : List V} {ds : List D}, Reps K F vs ds → Paired (Rep K F) vs ds
  | _, _, .nil => .nil
  | _, _, .cons r t => .cons r (Reps.pair t)
theorem Reps.of_pair {K : Kn} {F : Hp} : ∀ {vs : List V} {ds : List D}, Paired (Rep K F) vs ds → Reps K F vs ds
  | _, _, .nil => .nil
  | _, _, .cons r t => .cons r (Reps.of_pair t)
theorem kb_perm {K : PySem.W.Frag} {ks : List Str} {n m : Nat} {pm : List Nat} (hp : ps ≠ []) (h : ∀ us ws : List Value, us.length = n → ws.length = m → bindArgs fd ⟨us, ks.zip ws⟩ = pure (ps.zip (permA n m pm us ws))) : KBinds K fd ps ks (permA n m pm) (permA n m pm) :=
  ⟨fun s us ws _ hl => by
    have hc : us.length = n ∧ ws.length = m := by
      by_cases c : us.length = n ∧ ws.length = m
      · exact c
      · exfalso
        unfold permA at hl
        rw [if_neg c] at hl
        cases ps with
        | nil => exact hp rfl
        | cons _ _ => simp at hl
    exact .of_eq (h us ws hc.1 hc.2), fun r1 r2 => paired_perm r1 r2⟩
structure KD (B : Bs) (X : Cx) (kws : List Keyword) (f : GA) : Prop where
  run : PK X kws (LA B X.kn f)
theorem pk_imp {X : Cx} {kws : List Keyword} {t t' : TA} (h : PK X kws t) (w : ∀ s H Q, t' s H Q → t s H Q) : PK X kws t' := ⟨fun pos pins s σ H Q I q => h.run pos pins s σ H Q I (w _ _ _ q)⟩
theorem kd_nil : KD B X [] gNil := ⟨pk_imp pk_nil fun s H Q ⟨σ, F, Qd, R, q, k⟩ => k _ q F H _ (Grow.refl R.ex) R.deck .nil⟩
theorem kd_cons {nm : Option Str} {kpos : Pos} {kws : List Keyword} {fa : GE} (ha : ED B X e fa) (hr : KD B X kws fs) : KD B X (⟨nm, e, kpos⟩ :: kws) (gCons fa fs) :=
  ⟨pk_imp (pk_cons ha.run hr.run) fun s H Q ⟨σ, F, Qd, R, q, k⟩ => ⟨σ, F, _, R, q, fun d qd F1 H1 v g1 d1 r1 => ⟨σ, F1, _, R.grow g1 d1, qd, fun ds qds F2 H2 vs g2 d2 r2 => k _ qds F2 H2 _ (g1.trans g2) d2 (.cons (r1.mono g2.ff) r2)⟩⟩⟩
/-- f(e, .., k = v, ..) or f(k = v, ..) -/
@[simp] def gCallK (sp : DSp) (n m : Nat) (pm : List Nat) (W : WD) (R : Er → Prop) (fs fk : GA) (σ : List SV) (Q : D → Prop) : Prop := fs σ fun us => fk σ fun ws => sp W (permA n m pm us ws) Q R
variable {ks : List Str} {kws : List Keyword} {fk : GA} {n m : Nat} {pm : List Nat}
theorem pe_callK0 {sp : Sp} {gV : List V → List V → List V} {g : List Value → List Value → List Value} {tk : TA} (F : FnOk X.prog X.w X.K X.mg X.base (L2.CX X.prog X.w) k f fd ps sp) (room : Room k X.A) (glob : Gl X x) (isf : X.mg x = some (.ref f)) (kept : PySem.W.keepIn X.K (.ref f) = true)
    (bind : KBinds X.K fd ps ks g gV) (lets : Passes (L2.CX X.prog X.w) X E) (named : PK X kws tk) (each : (backToKw pos (keywordEach kws X.env)).all (·.1.isSome) = true := by rfl) (order : (backToKw pos (keywordEach kws X.env)).filterMap (·.1) = ks := by rfl) (ndb : (x == ("__debug__" : Str)) = false := by decide)
    (plain : ((backTo pos (starEach [] X.env)).any (·.1) || (backToKw pos (keywordEach kws X.env)).any (·.1.isNone)) = false := by rfl) : PE X (.Call (.Name x p) [] kws pos) (tCallK sp gV E tNil tk) :=
  ⟨fun pins s σ H Q I h => wpAny_Call_Name_kw (ld_glob I glob isf (PySem.W.callWith_KW0 (h₀ := X.base) I.ok.mod.kin kept each (thn (named.run pos pins s σ H _ I h) fun ws z ⟨zs, G, J, vals, q⟩ => ⟨J.kIn, order ▸ run_fnk (us := []) (vs := []) F room bind lets J .nil vals q⟩) plain) ndb)⟩
theorem la_callK {s : L2.St} {σ : List SV} {F H : Hp} {Qd : D → Prop} {Q : VK} {K : Kn} (hE : FinE B.W K B.F B.H R E) (Rl : Rel B K σ s F H) (q : gCallK sp n m pm B.W.p R fs fk σ Qd) (kf : Fin B K F H Qd Q) :
    LA B K fs s H fun vs H1 => LA B K fk s H1 fun zs H2 => liftSp K B.W.T sp (permA n m pm vs zs) H2 Q E :=
  ⟨σ, F, _, Rl, q, fun ds qds F1 H1 vs g1 d1 r1 => ⟨σ, F1, _, Rl.grow g1 d1, qds, fun zs qzs F2 H2 ws g2 d2 r2 => ⟨B.W.p, F2, _, Qd, R, g2.fh, d2, Reps.of_pair (paired_perm (r1.mono g2.ff).pair r2.pair), qzs,
    fun d qd F3 H3 v g3 d3 r3 => kf d qd F3 H3 v ((g1.trans g2).trans g3) d3 r3, hE.more ((Rl.base.trans g1).trans g2)⟩⟩⟩
theorem ed_callK (G : FnOk X.prog X.w X.K X.mg X.base (L2.CX X.prog X.w) k f fd ps (liftSp X.kn B.W.T sp)) (hr : Room k X.A) (hg : Gl X x) (hm : X.mg x = some (.ref f)) (hk : PySem.W.keepIn X.K (.ref f) = true) (hb : KBinds X.K fd ps ks (permA n m pm) (permA n m pm)) (hx : Passes (L2.CX X.prog X.w) X E) (hE : FinE B.W X.kn B.F B.H R E)
    (ha : AD B X (e :: es) fs) (hkw : KD B X kws fk) (hall : (backToKw pos (keywordEach kws X.env)).all (·.1.isSome) = true := by rfl) (hks : (backToKw pos (keywordEach kws X.env)).filterMap (·.1) = ks := by rfl)
    (hdb : (x == ("__debug__" : Str)) = false := by decide) (he : starEach (e :: es) X.env = (false, eval e X.env) :: starEach es X.env := by rfl)
    (hpl : ((backTo pos (starEach (e :: es) X.env)).any (·.1) || (backToKw pos (keywordEach kws X.env)).any (·.1.isNone)) = false := by rfl) :
    ED B X (.Call (.Name x p) (e :: es) kws pos) (gCallK sp n m pm B.W.p R fs fk) :=
  ⟨pe_imp (pe_callK G hr hg hm hk hb hx ha.run hkw.run hall hks hdb he hpl) fun s H Q ⟨σ, F, Qd, Rl, q, kf⟩ => la_callK hE Rl q kf⟩
theorem ed_callK0 (G : FnOk X.prog X.w X.K X.mg X.base (L2.CX X.prog X.w) k f fd ps (liftSp X.kn B.W.T sp)) (hr : Room k X.A) (hg : Gl X x) (hm : X.mg x = some (.ref f)) (hk : PySem.W.keepIn X.K (.ref f) = true) (hb : KBinds X.K fd ps ks (permA n m pm) (permA n m pm)) (hx : Passes (L2.CX X.prog X.w) X E) (hE : FinE B.W X.kn B.F B.H R E)
    (hkw : KD B X kws fk) (hall : (backToKw pos (keywordEach kws X.env)).all (·.1.isSome) = true := by rfl) (hks : (backToKw pos (keywordEach kws X.env)).filterMap (·.1) = ks := by rfl)
    (hdb : (x == ("__debug__" : Str)) = false := by decide)
    (hpl : ((backTo pos (starEach [] X.env)).any (·.1) || (backToKw pos (keywordEach kws X.env)).any (·.1.isNone)) = false := by rfl) :
    ED B X (.Call (.Name x p) [] kws pos) (gCallK sp n m pm B.W.p R gNil fk) :=
  ⟨pe_imp (pe_callK0 G hr hg hm hk hb hx hkw.run hall hks hdb hpl) fun s H Q ⟨σ, F, Qd, Rl, q, kf⟩ => ⟨σ, F, _, Rl, q, fun zs qzs F2 H2 ws g2 d2 r2 => ⟨B.W.p, F2, _, Qd, R, g2.fh, d2, Reps.of_pair (paired_perm .nil r2.pair), qzs,
    fun d qd F3 H3 v g3 d3 r3 => kf d qd F3 H3 v (g2.trans g3) d3 r3, hE.more (Rl.base.trans g2)⟩⟩⟩
end
end ND

/-! ND5: statements, loops -/
namespace ND
open PySem PySem.Spec L2
open PyProof.Rows (envOfC)

/-- what is wanted behind a statement, by data -/
structure Ed where
  nx : List SV → Prop
  rt : D → Prop
  bk : List SV → Prop
  ct : List SV → Prop
abbrev GS := Ed → List SV → Prop
structure EdOk (B : Bs) (K : Kn) (F : Hp) (E : Ed) (Dn : Ends) : Prop where
  nx : ∀ σ s F' H, Same F F' → Rel B K σ s F' H → E.nx σ → Dn.nx s H
  rt : ∀ d v F' H, Grow B.W B.F B.H F' H → DeckIn B.W F' H → Rep K F' v d → E.rt d → Dn.rt v H
  bk : ∀ σ s F' H, Same F F' → Rel B K σ s F' H → E.bk σ → Dn.bk s H
  ct : ∀ σ s F' H, Same F F' → Rel B K σ s F' H → E.ct σ → Dn.ct s H
def LS (B : Bs) (K : Kn) (g : GS) : TS := fun Dn s H => ∃ σ F E, Rel B K σ s F H ∧ g E σ ∧ EdOk B K F E Dn
structure SD (B : Bs) (X : Cx) (st : Stmt) (g : GS) : Prop where
  run : PS X st (LS B X.kn g)
structure SDs (B : Bs) (X : Cx) (sts : List Stmt) (g : GS) : Prop where
  run : PSs X sts (LS B X.kn g)
theorem EdOk.more {B : Bs} {K : Kn} {F F' : Hp} {E : Ed} {Dn : Ends} (h : EdOk B K F E Dn) (e : Same F F') : EdOk B K F' E Dn :=
  ⟨fun σ s F2 H a => h.nx σ s F2 H (e.trans a), h.rt, fun σ s F2 H a => h.bk σ s F2 H (e.trans a), fun σ s F2 H a => h.ct σ s F2 H (e.trans a)⟩
theorem ps_imp {X : Cx} {st : Stmt} {t t' : TS} (h : PS X st t) (w : ∀ Dn s H, t' Dn s H → t Dn s H) : PS X st t' := ⟨fun pins s σ H Dn I q => h.run pins s σ H Dn I (w _ _ _ q)⟩
theorem pss_imp {X : Cx} {st : List Stmt} {t t' : TS} (h : PSs X st t) (w : ∀ Dn s H, t' Dn s H → t Dn s H) : PSs X st t' := ⟨fun pins s σ H Dn I q => h.run pins s σ H Dn I (w _ _ _ q)⟩

@[simp] def gSkip (E : Ed) (σ : List SV) : Prop := E.nx σ
@[simp] def gSeq (g h : GS) (E : Ed) (σ : List SV) : Prop := g { E with nx := h E } σ
@[simp] def gDrop (fa : GE) (E : Ed) (σ : List SV) : Prop := fa σ fun _ => E.nx σ
@[simp] def gSet (i : Nat) (fa : GE) (E : Ed) (σ : List SV) : Prop := fa σ fun d => E.nx (σ.set i (.d d))
@[simp] def gSetL (i : Nat) (fa : GA) (E : Ed) (σ : List SV) : Prop := fa σ fun ds => E.nx (σ.set i (.ol ds))
@[simp] def gRet (fa : GE) (E : Ed) (σ : List SV) : Prop := fa σ E.rt
@[simp] def gRetN (E : Ed) (_ : List SV) : Prop := E.rt .non
@[simp] def gIfS (ft : GT) (g h : GS) (E : Ed) (σ : List SV) : Prop := ft σ fun b => iteB b (g E σ) (h E σ)
@[simp] def gBrk (E : Ed) (σ : List SV) : Prop := E.bk σ
@[simp] def gCnt (E : Ed) (σ : List SV) : Prop := E.ct σ
@[simp] def gNever (_ : Ed) (_ : List SV) : Prop := False
/-- a slot of one's own becomes data -/
def fz (i : Nat) (σ : List SV) : List SV := match σ[i]? with
  | some (.ol xs) => σ.set i (.d (.lst xs))
  | some (.od ks) => σ.set i (.d (.dic ks))
  | _ => σ
def gFz (i : Nat) (g : GS) : GS := fun E σ => g E (fz i σ)

section
variable {B : Bs} {X : Cx} {e a b c : Expr} {es : List Expr} {fa fb : GE} {fs : GA} {ft : GT} {g h : GS} {pos : Pos} {st : Stmt} {rest sts sts' : List Stmt}
theorem sds_nil : SDs B X [] gSkip := ⟨pss_imp pss_nil fun Dn s H ⟨σ, F, E, R, q, k⟩ => k.nx σ s F H (Same.refl F) R q⟩
theorem sds_cons (h1 : SD B X st g) (h2 : SDs B X rest h) : SDs B X (st :: rest) (gSeq g h) :=
  ⟨pss_imp (pss_cons h1.run h2.run) fun Dn s H ⟨σ, F, E, R, q, k⟩ => ⟨σ, F, { E with nx := h E }, R, q, ⟨fun σ' s' F' H' e R' q' => ⟨σ', F', E, R', q', k.more e⟩, k.rt, k.bk, k.ct⟩⟩⟩
theorem sds_one (h1 : SD B X st g) : SDs B X [st] g := ⟨pss_one h1.run⟩
theorem sd_pass : SD B X (.Pass pos) gSkip := ⟨ps_imp ps_pass fun Dn s H ⟨σ, F, E, R, q, k⟩ => k.nx σ s F H (Same.refl F) R q⟩
theorem sd_break : SD B X (.Break pos) gBrk := ⟨ps_imp ps_break fun Dn s H ⟨σ, F, E, R, q, k⟩ => k.bk σ s F H (Same.refl F) R q⟩
theorem sd_continue : SD B X (.Continue pos) gCnt := ⟨ps_imp ps_continue fun Dn s H ⟨σ, F, E, R, q, k⟩ => k.ct σ s F H (Same.refl F) R q⟩
theorem sd_never : SD B X st gNever := ⟨⟨fun _ _ _ _ _ _ ⟨_, _, _, _, q, _⟩ => q.elim⟩⟩
theorem sd_drop (ha : BD B X e fa) (hs : swapsWith e none pos.line X.env = pure false := by rfl) : SD B X (.Expr e pos) (gDrop fa) :=
  ⟨ps_imp (ps_expr ha.run hs) fun Dn s H ⟨σ, F, E, R, q, k⟩ => ⟨σ, F, _, R, q, fun d qd F' H' v g dk r => k.nx σ s F' H' g.ff (R.grow g dk) qd⟩⟩
theorem sd_set {i : Nat} {x : Str} {pos' : Pos} (hN : X.N.Nodup) (hi : X.N[i]? = some x) (hx : Loc X.env.scope x) (ha : ED B X e fa) (hs : swapsWith e (some (.Name x pos')) pos.line X.env = pure false := by rfl) (hf : X.fn x = true ∨ X.env.scope.names.lookup x = some .local := by first | exact .inl rfl | exact .inr rfl | assumption) :
    SD B X (.Assign [.Name x pos'] e pos) (gSet i fa) :=
  ⟨ps_imp (ps_set hN hi hx ha.run hs hf) fun Dn s H ⟨σ, F, E, R, q, k⟩ => ⟨σ, F, _, R, q, fun d qd F' H' v g dk r => k.nx _ _ F' H' g.ff ((R.grow g dk).set r) qd⟩⟩
theorem sd_setL {i : Nat} {x : Str} {pos' : Pos} (hN : X.N.Nodup) (hi : X.N[i]? = some x) (hx : Loc X.env.scope x) (ha : FD B X e fs) (hs : swapsWith e (some (.Name x pos')) pos.line X.env = pure false := by rfl) (hf : X.fn x = true ∨ X.env.scope.names.lookup x = some .local := by first | exact .inl rfl | exact .inr rfl | assumption) :
    SD B X (.Assign [.Name x pos'] e pos) (gSetL i fs) :=
  ⟨ps_imp (ps_set hN hi hx ha.run hs hf) fun Dn s H ⟨σ, F, E, R, q, k⟩ => ⟨σ, F, _, R, q, fun ds qd F' H' p vs g dk hp fp ep r => k.nx _ _ F' H' g.ff (R.setNew (x := .ol ds) g dk hp fp ⟨rfl, vs, ep, r⟩) qd⟩⟩
theorem sd_ret (ha : ED B X e fa) : SD B X (.Return (some e) pos) (gRet fa) :=
  ⟨ps_imp (ps_ret ha.run) fun Dn s H ⟨σ, F, E, R, q, k⟩ => ⟨σ, F, _, R, q, fun d qd F' H' v g dk r => k.rt d v F' H' (R.base.trans g) dk r qd⟩⟩
theorem sd_retN : SD B X (.Return none pos) gRetN := ⟨ps_imp ps_retN fun Dn s H ⟨σ, F, E, R, q, k⟩ => k.rt .non _ F H R.base R.deck .non q⟩
theorem sd_if (hc : TD B X c ft) (h1 : SDs B X sts g) (h2 : SDs B X sts' h) : SD B X (.If c sts sts' pos) (gIfS ft g h) :=
  ⟨ps_imp (ps_if hc.run h1.run h2.run) fun Dn s H ⟨σ, F, E, R, q, k⟩ => ⟨σ, F, _, R, q, fun d qd F' H' g dk => by
    cases d with
    | true => exact ⟨σ, F', E, R.grow g dk, qd, k.more g.ff⟩
    | false => exact ⟨σ, F', E, R.grow g dk, qd, k.more g.ff⟩⟩⟩
theorem ls_fz {K : Kn} {i : Nat} {Dn : Ends} {s : L2.St} {H : Hp} (h : LS B K (gFz i g) Dn s H) : LS B K g Dn s H := by
  obtain ⟨σ, F, E, R, q, k⟩ := h
  unfold gFz fz at q
  split at q
  · rename_i xs e
    obtain ⟨a, vs, h1, h2, h3, h4, h5, h6⟩ := R.ownL e
    exact ⟨_, upd F a (.lst vs), E, R.freeze e h1 h2 h5 h6 h4 (.inl ⟨_, rfl⟩) (.lst upd_same (h3.mono (same_new h5))), q, k.more (same_new h5)⟩
  · rename_i xs e
    obtain ⟨a, vs, h1, h2, h3, h4, h5, h6⟩ := R.ownD e
    exact ⟨_, upd F a (.dK vs), E, R.freeze e h1 h2 h5 h6 h4 (.inr (.inl ⟨_, rfl⟩)) (.dic upd_same (h3.mono (same_new h5))), q, k.more (same_new h5)⟩
  · exact ⟨σ, F, E, R, q, k⟩
theorem sd_fz (i : Nat) (h : SD B X st g) : SD B X st (gFz i g) := ⟨ps_imp h.run fun _ _ _ q => ls_fz q⟩

/-! ### several targets -/
/-- the slots is take the data ds -/
@[simp] def setAll : List Nat → List D → List SV → List SV
  | i :: is, d :: ds, σ => setAll is ds (σ.set i (.d d))
  | _, _, σ => σ
def setAllV : List Nat → List V → L2.St → L2.St
  | i :: is, v :: vs, s => setAllV is vs (s.set i (some v))
  | _, _, s => s
theorem Rel.sets {K : Kn} {F H : Hp} : ∀ {is : List Nat} {ds : List D} {vs : List V} {σ : List SV} {s : L2.St}, Rel B K σ s F H → Reps K F vs ds → Rel B K (setAll is ds σ) (setAllV is vs s) F H
  | [], ds, vs, σ, s, R, h => by
    cases ds <;> cases vs <;> exact R
  | i :: is, [], vs, σ, s, R, h => by
    cases h
    exact R
  | i :: is, d :: ds, vs, σ, s, R, h => by
    cases h with
    | @cons v vs _ _ r t =>
      show Rel B K (ND.setAll is ds (σ.set i (.d d))) (setAllV is vs (s.set i (some v))) F H
      exact Rel.sets (R.set r) t
def unT (n : Nat) (d : D) (Q : List D → Prop) : Prop := ∃ ds, d = .tup ds ∧ ds.length = n ∧ Q ds
@[simp] theorem unT_t (n : Nat) (b : List D) (Q : List D → Prop) : unT n (.tup b) Q ↔ b.length = n ∧ Q b := ⟨fun ⟨_, e, q⟩ => by cases e; exact q, fun q => ⟨b, rfl, q⟩⟩
@[simp] def gSetT (is : List Nat) (fa : GE) (E : Ed) (σ : List SV) : Prop := fa σ fun d => unT is.length d fun ds => E.nx (setAll is ds σ)
/-- targets: names in the slots is -/
structure NamesAt (X : Cx) (ts : List Expr) (is : List Nat) : Prop where
  run : PGs X ts fun vs σ H Q => vs.length = is.length ∧ Q (setAllV is vs σ) H
theorem na_nil : NamesAt X [] [] := ⟨⟨fun pins s σ H vs us Q I r h => by
  obtain ⟨h1, h2⟩ := h
  cases vs with
  | nil => exact pgs_nil.run pins s σ H [] us Q I r ⟨rfl, h2⟩
  | cons _ _ => simp at h1⟩⟩
theorem na_cons {i : Nat} {is : List Nat} {t : Expr} {ts : List Expr} (h1 : PG X t (gName i)) (h2 : NamesAt X ts is) (hs : (assignEach (t :: ts) X.env).map (·.2) = assign t X.env :: (assignEach ts X.env).map (·.2) := by rfl) : NamesAt X (t :: ts) (i :: is) := ⟨⟨fun pins s σ H vs us Q I r h => by
  obtain ⟨hl, hq⟩ := h
  cases vs with
  | nil => simp at hl
  | cons v vs => exact (pgs_cons h1 h2.run hs).run pins s σ H _ us Q I r ⟨v, vs, rfl, by simpa using hl, hq⟩⟩⟩
theorem sd_setT {is : List Nat} {ts : List Expr} {kt : Nat} {pt : Pos} (hc : X.calm = true) (hn : NamesAt X ts is) (ha : ED B X e fa) (hs : swapsWithSole [.Tuple ts kt pt] e pos.line X.env = pure false := by rfl) (hw : swappedStores [.Tuple ts kt pt] e X.env = pure none := by rfl)
    (h1 : (assignEach [.Tuple ts kt pt] X.env).map (·.2) = [assign (.Tuple ts kt pt) X.env] := by rfl) (hl : (assignEach ts X.env).length = is.length := by rfl) (hst : (assignEach ts X.env).findIdx? (·.1) = none := by rfl) :
    SD B X (.Assign [.Tuple ts kt pt] e pos) (gSetT is fa) :=
  ⟨ps_imp (ps_asg ha.run (pg_tup hc hn.run hl hst) hs hw h1) fun Dn s H ⟨σ, F, E, R, q, k⟩ => ⟨σ, F, _, R, q, fun d ⟨ds, e, hl, qd⟩ F' H' v g dk r => by
    subst e
    cases r with
    | tup h r => exact ⟨_, _, rfl, same_t g.fh h, by rw [r.length]; exact hl, by rw [r.length]; exact hl, k.nx _ _ F' H' g.ff ((R.grow g dk).sets r) qd⟩⟩⟩
/-- a, b = x, y with plain local names -/
@[simp] def gPar (is : List Nat) (fs : GA) (E : Ed) (σ : List SV) : Prop := fs σ fun ds => ds.length = is.length ∧ E.nx (setAll is ds σ)
theorem sd_par2 {i j : Nat} {x y : Str} {px py pt : Pos} {kt k2 pt2} (hc : X.calm = true) (hN : X.N.Nodup) (hi : X.N[i]? = some x) (hj : X.N[j]? = some y) (hij : i ≠ j)
    (hx : X.env.scope.names.lookup x = some .local) (hy : X.env.scope.names.lookup y = some .local) (ha : AD B X [a, b] fs)
    (hw : swappedStores [.Tuple [.Name x px, .Name y py] kt pt] (.Tuple [a, b] k2 pt2) X.env = pure (some [x, y]))
    (hs : swapsWithSole [.Tuple [.Name x px, .Name y py] kt pt] (.Tuple [a, b] k2 pt2) pos.line X.env = pure false := by rfl) :
    SD B X (.Assign [.Tuple [.Name x px, .Name y py] kt pt] (.Tuple [a, b] k2 pt2) pos) (gPar [i, j] fs) :=
  ⟨ps_imp (ps_par hc hN hi hj hij hx hy ha.run hw hs) fun Dn s H ⟨σ, F, E, R, q, k⟩ => ⟨σ, F, _, R, q, fun ds ⟨hl, qd⟩ F' H' vs g dk r => by
    have R2 := (R.grow g dk).sets (is := [i, j]) r
    cases r with
    | nil => simp at hl
    | cons r1 r =>
      cases r with
      | nil => simp at hl
      | cons r2 r =>
        cases r with
        | cons _ _ => simp at hl
        | nil => exact ⟨_, _, rfl, k.nx _ _ F' H' g.ff R2 qd⟩⟩⟩
theorem sd_par3 {i j l : Nat} {x y z : Str} {px py pz pt : Pos} {kt k2 pt2} (hc : X.calm = true) (hN : X.N.Nodup) (hi : X.N[i]? = some x) (hj : X.N[j]? = some y) (hl : X.N[l]? = some z) (hij : i ≠ j) (hil : i ≠ l) (hjl : j ≠ l)
    (hx : X.env.scope.names.lookup x = some .local) (hy : X.env.scope.names.lookup y = some .local) (hz : X.env.scope.names.lookup z = some .local) (ha : AD B X [a, b, c] fs)
    (hw : swappedStores [.Tuple [.Name x px, .Name y py, .Name z pz] kt pt] (.Tuple [a, b, c] k2 pt2) X.env = pure (some [x, y, z]))
    (hs : swapsWithSole [.Tuple [.Name x px, .Name y py, .Name z pz] kt pt] (.Tuple [a, b, c] k2 pt2) pos.line X.env = pure false := by rfl) :
    SD B X (.Assign [.Tuple [.Name x px, .Name y py, .Name z pz] kt pt] (.Tuple [a, b, c] k2 pt2) pos) (gPar [i, j, l] fs) :=
  ⟨ps_imp (ps_par3 hc hN hi hj hl hij hil hjl hx hy hz ha.run hw hs) fun Dn s H ⟨σ, F, E, R, q, k⟩ => ⟨σ, F, _, R, q, fun ds ⟨hl, qd⟩ F' H' vs g dk r => by
    have R2 := (R.grow g dk).sets (is := [i, j, l]) r
    cases r with
    | nil => simp at hl
    | cons r1 r =>
      cases r with
      | nil => simp at hl
      | cons r2 r =>
        cases r with
        | nil => simp at hl
        | cons r3 r =>
          cases r with
          | cons _ _ => simp at hl
          | nil => exact ⟨_, _, _, rfl, k.nx _ _ F' H' g.ff R2 qd⟩⟩⟩

/-! ### x op= e; xs[i] = e; xs.append(e) -/
def gAug (i : Nat) (gop : D → D → (D → Prop) → Prop) (fa : GE) : GS := fun E σ => ∃ x, σ[i]? = some (.d x) ∧ fa σ fun y => gop x y fun z => E.nx (σ.set i (.d z))
theorem sd_aug {i : Nat} {x : Str} {op : Operator} {gop : D → D → (D → Prop) → Prop} {pos' : Pos} (hN : X.N.Nodup) (hi : X.N[i]? = some x) (hx : Loc X.env.scope x) (ha : BD B X e fa) (ho : OpR X (inplaceOp op) (LO2 B X.kn gop)) (hf : X.fn x = true ∨ X.env.scope.names.lookup x = some .local := by first | exact .inl rfl | exact .inr rfl | assumption) :
    SD B X (.AugAssign (.Name x pos') op e pos) (gAug i gop fa) :=
  ⟨ps_imp (ps_aug hN hi hx ha.run (ti := LO2 B X.kn gop) ho hf) fun Dn s H ⟨σ, F, E, R, ⟨y, e1, q⟩, k⟩ => by
    obtain ⟨v, h1, h2⟩ := R.dat e1
    exact ⟨v, h1, σ, F, _, R, q, fun d qd F' H' u g dk r => ⟨F', y, d, _, g.fh, dk, .inl (h2.mono g.ff), r, qd, fun z qz F2 H2 w g2 dk2 r2 => k.nx _ _ F2 H2 (g.ff.trans g2.ff) ((R.grow (g.trans g2) dk2).set r2) qz⟩⟩⟩
def iaddD : D → D → (D → Prop) → Prop
  | .int i, .int j, Q => Q (.int (i + j))
  | .str i, .str j, Q => i.length + j.length ≤ sizeLine ∧ Q (.str (i ++ j))
  | _, _, _ => False
theorem o_iadd : OpR X (inplaceOp .Add) (LO2 B X.kn iaddD) := opR_by fun v u H Q ⟨F, x, y, Qd, e, dk, r1, r2, q, k⟩ => by
  unfold iaddD at q
  split at q
  · exact ⟨_, iop_add, _, _, r1.int, r2.int, k.here e dk q (.int _)⟩
  · exact ⟨_, iop_add_str, _, _, r1.str, r2.str, q.1, k.here e dk q.2 (.str _)⟩
  · exact q.elim
theorem o_isub : OpR X (inplaceOp .Sub) (LO2 B X.kn subD) := opR_by fun v u H Q ⟨F, x, y, Qd, e, dk, r1, r2, q, k⟩ => by
  unfold subD at q
  split at q
  · exact ⟨_, iop_sub, _, _, r1.int, r2.int, k.here e dk q (.int _)⟩
  · exact q.elim
/-- xs[i] = e, xs of one's own -/
def gSetI (k : Nat) (fe fi : GE) : GS := fun E σ => ∃ xs, σ[k]? = some (.ol xs) ∧ fe σ fun x => fi σ fun d => ∃ i j, d = .int i ∧ ixN xs.length i = some j ∧ E.nx (σ.set k (.ol (xs.set j x)))
theorem sd_setI {k : Nat} {x : Str} {i : Expr} {px pt : Pos} {fe fi : GE} (hv : PE X (.Name x px) (tVar k)) (he : ED B X e fe) (hi : BD B X i fi) (hs : swapsWithSole [.Subscript (.Name x px) i pt] e pos.line X.env = pure false := by rfl) (hw : swappedStores [.Subscript (.Name x px) i pt] e X.env = pure none := by rfl)
    (h1 : (assignEach [.Subscript (.Name x px) i pt] X.env).map (·.2) = [assign (.Subscript (.Name x px) i pt) X.env] := by rfl)
    (ha : ∀ v, assign (.Subscript (.Name x px) i pt) X.env v = (do
      let ov ← holding [v] (eval (.Name x px) X.env)
      let iv ← holding [v, ov] (eval i X.env)
      standAt pt
      holding [v, ov, iv] (setItem ov iv v)
      release [v, ov, iv] []) := by intro _; rfl) : SD B X (.Assign [.Subscript (.Name x px) i pt] e pos) (gSetI k fe fi) :=
  ⟨ps_imp (ps_asg he.run (pg_sub hv hi.run set_list ha) hs hw h1) fun Dn s H ⟨σ, F, E, R, ⟨xs, eo, q⟩, kk⟩ => by
    obtain ⟨a, _, s1, _⟩ := R.ownL eo
    exact ⟨σ, F, _, R, q, fun d qd F1 H1 v g1 d1 r1 => ⟨.ref a, s1, σ, F1, _, R.grow g1 d1, qd, fun d2 ⟨i, j, e2, hj, qn⟩ F2 H2 u g2 dk2 r2 => by
      subst e2
      have R2 := R.grow (g1.trans g2) dk2
      obtain ⟨a', vs, s2, h2, h3, h4, h5, h6⟩ := R2.ownL eo
      rw [s1] at s2
      cases s2
      refine ⟨a, vs, i, j, rfl, r2.int, h2, by rw [h3.length]; exact hj, ?_⟩
      exact kk.nx _ _ F2 _ (g1.ff.trans g2.ff) (R2.write eo (.inl ⟨_, rfl⟩) s1 (x := .ol (xs.set j d)) ⟨rfl, _, upd_same, h3.set (r1.mono g2.ff) j⟩) qn⟩⟩⟩
/-- xs[i] op= e, ints -/
theorem getItem_lst {X : Cx} : PGet X (rIxL X.K) := fun pins s σ H o i ov iv Q I eo ei ⟨a, xs, k, z, ea, ek, stands, found, q⟩ => by
  subst ea ek
  obtain ⟨t, rfl⟩ := ei
  cases eo
  obtain ⟨its, same, plain, _⟩ := I.list stands
  obtain ⟨j, place, item, _, low, high⟩ := atI_get found
  obtain ⟨w, ew, is⟩ := same.get item
  have cnt := same.length
  have top := line63
  have at_j : its.toArray[j]? = some w := by simpa using ew
  rcases Int.lt_or_le k 0 with neg | pos
  · rw [seqIndex_neg neg low] at place
    have e : (k + (its.toArray.size : Int)).toNat = j := by
      rw [List.size_toArray, ← cnt]
      exact Option.some.inj place
    exact wpAny_getItem_list_neg plain.isList neg (by rw [List.size_toArray] <;> omega) (by omega) (e ▸ at_j) ⟨z, H, I, is, q⟩
  · rw [seqIndex_of pos high] at place
    exact wpAny_getItem_list plain.isList pos (by omega) (Option.some.inj place ▸ at_j) ⟨z, H, I, is, q⟩
def gAugI (k : Nat) (gop : D → D → (D → Prop) → Prop) (fi fe : GE) : GS := fun E σ => ∃ xs, σ[k]? = some (.ol xs) ∧ fi σ fun d => ∃ i j x, d = .int i ∧ ixN xs.length i = some j ∧ xs[j]? = some x ∧ fe σ fun y => gop x y fun z => E.nx (σ.set k (.ol (xs.set j z)))
theorem sd_augI {k : Nat} {x : Str} {i : Expr} {op : Operator} {gop : D → D → (D → Prop) → Prop} {px pt : Pos} {fe fi : GE} (hv : PE X (.Name x px) (tVar k)) (hi : BD B X i fi) (he : BD B X e fe) (ho : OpR X (inplaceOp op) (LO2 B X.kn gop))
    (ha : ∀ ov iv new, augStore i ov iv new = (do holding [new, ov, iv] (setItem ov iv new); release [new, ov, iv] []; pure .next) := by intros; rfl) : SD B X (.AugAssign (.Subscript (.Name x px) i pt) op e pos) (gAugI k gop fi fe) :=
  ⟨ps_imp (ps_augS hv hi.run getItem_lst he.run (tip := LO2 B X.kn gop) ho set_list ha) fun Dn s H ⟨σ, F, E, R, ⟨xs, eo, q⟩, kk⟩ => by
    obtain ⟨a, _, s1, _⟩ := R.ownL eo
    refine ⟨.ref a, s1, σ, F, _, R, q, fun d1 ⟨i, j, z, e1, hj, hz, q1⟩ F1 H1 u g1 d1 r1 => ?_⟩
    subst e1
    have R1 := R.grow g1 d1
    obtain ⟨a', vs, s2, h2, h3, h4, h5, h6⟩ := R1.ownL eo
    rw [s1] at s2
    cases s2
    obtain ⟨zv, hzv, rz⟩ := h3.get hz
    have hat : L2.atI vs i = some zv := by
      unfold L2.atI
      rw [h3.length, hj]
      exact hzv
    refine ⟨a, vs, i, zv, rfl, r1.int, SqL.of h2, hat, σ, F1, _, R1, q1, fun y qy F2 H2 w g2 dk2 r2 => ?_⟩
    refine ⟨F2, z, y, _, g2.fh, dk2, .inl (rz.mono g2.ff), r2, qy, fun z' qz F3 H3 w3 g3 dk3 r3 => ?_⟩
    have R3 := R1.grow (g2.trans g3) dk3
    obtain ⟨a', vs3, s3, k2, k3, k4, k5, k6⟩ := R3.ownL eo
    rw [s1] at s3
    cases s3
    refine ⟨a, vs3, i, j, rfl, r1.int, k2, by rw [k3.length]; exact hj, ?_⟩
    exact kk.nx _ _ F3 _ ((g1.ff.trans g2.ff).trans g3.ff) (R3.write eo (.inl ⟨_, rfl⟩) s1 (x := .ol (xs.set j z')) ⟨rfl, _, upd_same, k3.set r3 j⟩) qz⟩
/-- xs.append(e) -/
def gApp (k : Nat) (fe : GE) : GS := fun E σ => ∃ xs, σ[k]? = some (.ol xs) ∧ fe σ fun x => xs.length < sizeLine ∧ E.nx (σ.set k (.ol (xs ++ [x])))
theorem sd_app {k : Nat} {x : Str} {px apos cpos : Pos} {fe : GE} (h : PE X (.Call (.Attribute (.Name x px) "append" apos) [e] [] cpos) (tBM X.K "list" rAppend (tVar k) (tCons (LE B X.kn fe) tNil))) (hs : swapsWith (.Call (.Attribute (.Name x px) "append" apos) [e] [] cpos) none pos.line X.env = pure false := by rfl) :
    SD B X (.Expr (.Call (.Attribute (.Name x px) "append" apos) [e] [] cpos) pos) (gApp k fe) :=
  ⟨ps_imp (ps_expr h hs) fun Dn s H ⟨σ, F, E, R, ⟨xs, eo, q⟩, kk⟩ => by
    obtain ⟨a, _, s1, h1, _⟩ := R.ownL eo
    refine ⟨.ref a, s1, .inl ⟨rfl, _, .inl (.inl h1)⟩, σ, F, _, R, q, fun d ⟨hz, qd⟩ F1 H1 v g1 d1 r1 => ?_⟩
    have R1 := R.grow g1 d1
    obtain ⟨a', vs, s2, h2, h3, h4, h5, h6⟩ := R1.ownL eo
    rw [s1] at s2
    cases s2
    exact ⟨a, vs, v, rfl, rfl, h2, by rw [h3.length]; exact hz, kk.nx _ _ F1 _ g1.ff (R1.write eo (.inl ⟨_, rfl⟩) s1 (x := .ol (xs ++ [d])) ⟨rfl, _, upd_same, h3.append (.cons r1 .nil)⟩) qd⟩⟩

/-! ### while -/
/-- an invariant with a measure -/
def gWhile (ft : GT) (g : GS) : GS := fun E σ => ∃ I : Nat → List SV → Prop, (∃ m, I m σ) ∧ ∀ m σ', I m σ' → ft σ' fun b => if b = true then g { E with nx := fun σ2 => ∃ m', m' < m ∧ I m' σ2, ct := fun σ2 => ∃ m', m' < m ∧ I m' σ2, bk := E.nx } σ' else E.nx σ'
theorem sd_while (hp : PassesOwn (model X.prog X.w) X.A X.env X.xe) (hc : TD B X c ft) (hb : SDs B X sts g) : SD B X (.While c sts [] pos) (gWhile ft g) :=
  ⟨ps_imp (ps_while hp hc.run hb.run) fun Dn s H ⟨σ, F, E, R, ⟨I, ⟨m0, h0⟩, q⟩, kk⟩ => by
    refine ⟨fun m s' H' => ∃ σ' F', Same F F' ∧ Rel B X.kn σ' s' F' H' ∧ I m σ', ⟨m0, σ, F, Same.refl F, R, h0⟩, ?_⟩
    rintro m s' H' ⟨σ', F', e', R', i'⟩
    refine ⟨σ', F', _, R', q m σ' i', fun b qb F2 H2 g2 dk2 => ?_⟩
    have R2 := R'.grow g2 dk2
    cases b with
    | true =>
      refine ⟨fun s3 H3 => ∃ σ3 F3, Same F F3 ∧ Rel B X.kn σ3 s3 F3 H3 ∧ ∃ m', m' < m ∧ I m' σ3, ?_, σ', F2, _, R2, qb, ?_⟩
      · rintro s3 H3 ⟨σ3, F3, e3, R3, m', hm, i3⟩
        exact ⟨m', hm, σ3, F3, e3, R3, i3⟩
      · have eF := e'.trans g2.ff
        exact ⟨fun σ3 s3 F3 H3 a r q3 => ⟨σ3, F3, eF.trans a, r, q3⟩, kk.rt, fun σ3 s3 F3 H3 a r q3 => kk.nx σ3 s3 F3 H3 (eF.trans a) r q3, fun σ3 s3 F3 H3 a r q3 => ⟨σ3, F3, eF.trans a, r, q3⟩⟩
    | false => exact kk.nx σ' s' F2 H2 (e'.trans g2.ff) R2 qb⟩

/-! ### for -/
/-- J gives the items ds -/
structure ItOk (B : Bs) (K : Kn) (J : It) (ds : List D) (F : Hp) : Prop where
  go : ∀ (F' H' : Hp) i d, Same F F' → Same F' H' → DeckIn B.W F' H' → ds[i]? = some d → J.go i H' ∧ ∀ x H'', J.yld i H' x H'' → ∃ F'', Grow B.W F' H' F'' H'' ∧ DeckIn B.W F'' H'' ∧ Rep K F'' x d
  stop : ∀ (F' H' : Hp) i, Same F F' → Same F' H' → ds.length ≤ i → J.stop i H'
def LI (B : Bs) (K : Kn) (f : GA) : TI := fun s H R => ∃ σ F Qd, Rel B K σ s F H ∧ f σ Qd ∧ ∀ ds, Qd ds → ∀ F' H' J, Grow B.W F H F' H' → DeckIn B.W F' H' → ItOk B K J ds F' → R J H'
structure PID (B : Bs) (X : Cx) (tg iter : Expr) (f : GA) : Prop where
  run : PI X tg iter (LI B X.kn f)
theorem pi_imp {tg : Expr} {t t' : TI} (h : PI X tg e t) (w : ∀ s H R, t' s H R → t s H R) : PI X tg e t' := ⟨fun pins s σ H R I q => h.run pins s σ H R I (w _ _ _ q)⟩
theorem itOk_list {K : Kn} {a : Addr} {vs : List V} {ds : List D} {F : Hp} (h : F a = some (.lst vs)) (r : Reps K F vs ds) : ItOk B K (Itl K.K a) ds F := by
  refine ⟨fun F' H' i d e1 e2 dk hd => ?_, fun F' H' i e1 e2 hi => ⟨vs, SqL.of (e2 _ _ (e1 _ _ h)), by rw [r.length]; exact hi⟩⟩
  have ha : H' a = some (.lst vs) := e2 _ _ (e1 _ _ h)
  obtain ⟨v, hv, rv⟩ := r.get hd
  refine ⟨⟨vs, v, SqL.of ha, hv⟩, fun x H'' ⟨e, f⟩ => ?_⟩
  subst e
  have := f vs (SqL.of ha)
  rw [hv] at this
  cases this
  exact ⟨F', Grow.refl e2, dk, rv.mono e1⟩
theorem itOk_tup {K : Kn} {a : Addr} {vs : List V} {ds : List D} {F : Hp} (h : SqT K.K F a vs) (r : Reps K F vs ds) : ItOk B K (Itt K.K a) ds F := by
  refine ⟨fun F' H' i d e1 e2 dk hd => ?_, fun F' H' i e1 e2 hi => ⟨vs, same_t e2 (same_t e1 h), by rw [r.length]; exact hi⟩⟩
  have ha : SqT K.K H' a vs := same_t e2 (same_t e1 h)
  obtain ⟨v, hv, rv⟩ := r.get hd
  refine ⟨⟨vs, v, ha, hv⟩, fun x H'' ⟨e, f⟩ => ?_⟩
  subst e
  have := f vs ha
  rw [hv] at this
  cases this
  exact ⟨F', Grow.refl e2, dk, rv.mono e1⟩
def intsFrom (lo : Int) (n : Nat) : List D := (List.range n).map fun (i : Nat) => D.int (lo + (i : Int))
theorem itOk_range {K : Kn} {lo : Int} {n : Nat} {F : Hp} : ItOk B K (Itr lo n) (intsFrom lo n) F := by
  refine ⟨fun F' H' i d e1 e2 dk hd => ?_, fun F' H' i e1 e2 hi => by (show n ≤ i); simpa [intsFrom] using hi⟩
  unfold intsFrom at hd
  rw [List.getElem?_map] at hd
  have hi : i < n := by
    have := (List.getElem?_eq_some_iff.mp (Option.map_eq_some_iff.mp hd).choose_spec.1).1
    simpa using this
  refine ⟨hi, fun x H'' ⟨e, f⟩ => ?_⟩
  subst e f
  rw [List.getElem?_range hi] at hd
  cases hd
  exact ⟨F', Grow.refl e2, dk, .int _⟩
/-- for x in e, e data: a list, a tuple -/
@[simp] def gIter (fa : GE) (σ : List SV) (Q : List D → Prop) : Prop := fa σ fun d => match d with | .tup xs => Q xs | .lst xs => Q xs | _ => False
theorem pid_data {tg : Expr} (ha : ED B X e fa) : PID B X tg e (gIter fa) := ⟨⟨fun pins s σv H R I ⟨σ, F, Qd, Rl, q, k⟩ => by
  refine thn (ha.run.run pins s σv H (fun v H1 => ∃ d F1, Grow B.W F H F1 H1 ∧ DeckIn B.W F1 H1 ∧ Rep X.kn F1 v d ∧ match d with | .tup xs => Qd xs | .lst xs => Qd xs | _ => False) I ⟨σ, F, _, Rl, q, fun d qd F1 H1 v g1 d1 r1 => ⟨d, F1, g1, d1, r1, qd⟩⟩) fun v s1 ⟨x, H1, I1, r1, d, F1, g1, d1, rd, qd⟩ => ?_
  cases rd with
  | tup h r =>
    cases r1
    obtain ⟨its, rv, p, hz⟩ := I1.tuple (same_t g1.fh h)
    refine wpAny_pyIter_tuple (show s1.heap.IsTuple _ its.toArray from p) ?_
    refine ⟨s1.heap.objs.size, [s1.heap.objs.size], _, _, H1, rfl, I1.kept (t' := s1.toks) fun b o e => Heap.get?_push_of_some _ e, turn_tuple _ _, ⟨_, Heap.get?_push_size _ rfl, rfl, rfl⟩, fun b hb => ?_, k _ qd F1 H1 _ g1 d1 (itOk_tup h r)⟩
    have e : b = s1.heap.objs.size := by simpa using hb
    subst e
    exact I1.fpOk (Nat.le_refl _) (I1.hok.fresh (Nat.le_refl _))
  | lst h r =>
    cases r1
    obtain ⟨its, rv, p, hz⟩ := I1.list (SqL.of (g1.fh _ _ h))
    refine wpAny_pyIter_list p.isList ?_
    refine ⟨s1.heap.objs.size, [s1.heap.objs.size], _, _, H1, rfl, I1.kept (t' := s1.toks) fun b o e => Heap.get?_push_of_some _ e, turn_list _ _, ⟨_, Heap.get?_push_size _ rfl, rfl, rfl⟩, fun b hb => ?_, k _ qd F1 H1 _ g1 d1 (itOk_list h r)⟩
    have e : b = s1.heap.objs.size := by simpa using hb
    subst e
    exact I1.fpOk (Nat.le_refl _) (I1.hok.fresh (Nat.le_refl _))
  | _ => exact False.elim qd⟩⟩
/-- range(n), range(a, b) -/
def rng1D (ds : List D) (Q : List D → Prop) : Prop := ∃ j, ds = [.int j] ∧ -(2 ^ 62) ≤ j ∧ j < 2 ^ 62 ∧ Q (intsFrom 0 j.toNat)
@[simp] theorem rng1D_i (j : Int) (Q : List D → Prop) : rng1D [.int j] Q ↔ -(2 ^ 62) ≤ j ∧ j < 2 ^ 62 ∧ Q (intsFrom 0 j.toNat) := ⟨fun ⟨_, e, q⟩ => by cases e; exact q, fun q => ⟨j, rfl, q⟩⟩
def rng2D (ds : List D) (Q : List D → Prop) : Prop := ∃ i j, ds = [.int i, .int j] ∧ (-(2 ^ 62) ≤ i ∧ i < 2 ^ 62 ∧ -(2 ^ 62) ≤ j ∧ j < 2 ^ 62) ∧ Q (intsFrom i (j - i).toNat)
@[simp] theorem rng2D_i (i j : Int) (Q : List D → Prop) : rng2D [.int i, .int j] Q ↔ (-(2 ^ 62) ≤ i ∧ i < 2 ^ 62 ∧ -(2 ^ 62) ≤ j ∧ j < 2 ^ 62) ∧ Q (intsFrom i (j - i).toNat) := ⟨fun ⟨_, _, e, q⟩ => by cases e; exact q, fun q => ⟨i, j, rfl, q⟩⟩
@[simp] def gRng1 (fs : GA) (σ : List SV) (Q : List D → Prop) : Prop := fs σ fun ds => rng1D ds Q
@[simp] def gRng2 (fs : GA) (σ : List SV) (Q : List D → Prop) : Prop := fs σ fun ds => rng2D ds Q
theorem pid_rng1 {tg : Expr} {p : Pos} {fs : GA} (hg : Gl X "range") (hm : X.mg "range" = none) (ha : AD B X [a] fs) (hs : starEach [a] X.env = [(false, eval a X.env)] := by rfl) : PID B X tg (.Call (.Name "range" p) [a] [] pos) (gRng1 fs) :=
  ⟨pi_imp (pi_range1 hg hm ha.run hs) fun s H R ⟨σ, F, Qd, Rl, q, k⟩ => ⟨σ, F, _, Rl, q, fun ds ⟨j, e, h1, h2, qd⟩ F1 H1 vs g1 d1 r1 => by
    subst e
    cases r1 with
    | cons r t =>
      cases r
      cases t
      exact ⟨j, rfl, h1, h2, k _ qd F1 H1 _ g1 d1 itOk_range⟩⟩⟩
theorem pid_rng2 {tg : Expr} {p : Pos} {fs : GA} (hg : Gl X "range") (hm : X.mg "range" = none) (ha : AD B X [a, b] fs) (hs : starEach [a, b] X.env = [(false, eval a X.env), (false, eval b X.env)] := by rfl) (hs2 : starEach [b] X.env = [(false, eval b X.env)] := by rfl) : PID B X tg (.Call (.Name "range" p) [a, b] [] pos) (gRng2 fs) :=
  ⟨pi_imp (pi_range2 hg hm ha.run hs hs2) fun s H R ⟨σ, F, Qd, Rl, q, k⟩ => ⟨σ, F, _, Rl, q, fun ds ⟨i, j, e, h1, qd⟩ F1 H1 vs g1 d1 r1 => by
    subst e
    cases r1 with
    | cons r t =>
      cases r
      cases t with
      | cons r t =>
        cases r
        cases t
        exact ⟨i, j, rfl, h1, k _ qd F1 H1 _ g1 d1 itOk_range⟩⟩⟩
/-- the target of a for: a name, a tuple of names -/
abbrev GG := D → List SV → (List SV → Prop) → Prop
structure GD (B : Bs) (X : Cx) (tg : Expr) (gt : GG) : Prop where
  run : ∃ t, PG X tg t ∧ ∀ d v σ s F H (Qd : List SV → Prop) (Q : L2.St → Hp → Prop), Rel B X.kn σ s F H → Rep X.kn F v d → gt d σ Qd → (∀ σ' s', Rel B X.kn σ' s' F H → Qd σ' → Q s' H) → t v s H Q
@[simp] def ggName (i : Nat) (d : D) (σ : List SV) (Q : List SV → Prop) : Prop := Q (σ.set i (.d d))
@[simp] def ggTup (is : List Nat) (d : D) (σ : List SV) (Q : List SV → Prop) : Prop := unT is.length d fun ds => Q (setAll is ds σ)
theorem gd_name {i : Nat} {x : Str} (h : PG X (.Name x pos) (gName i)) : GD B X (.Name x pos) (ggName i) := ⟨_, h, fun d v σ s F H Qd Q R r q k => k _ _ (R.set r) q⟩
theorem gd_tup {is : List Nat} {ts : List Expr} {kt : Nat} (hc : X.calm = true) (hn : NamesAt X ts is) (hl : (assignEach ts X.env).length = is.length := by rfl) (hst : (assignEach ts X.env).findIdx? (·.1) = none := by rfl) : GD B X (.Tuple ts kt pos) (ggTup is) :=
  ⟨_, pg_tup hc hn.run hl hst, fun d v σ s F H Qd Q R r ⟨ds, e, hl, q⟩ k => by
    subst e
    cases r with
    | tup h r => exact ⟨_, _, rfl, same_t R.ex h, by rw [r.length]; exact hl, by rw [r.length]; exact hl, k _ _ (R.sets r) q⟩⟩
def forG (gt : GG) (g : GS) : List D → Ed → List SV → Prop
  | [], E, σ => E.nx σ
  | d :: ds, E, σ => gt d σ fun σ' => g { E with nx := forG gt g ds E, ct := forG gt g ds E, bk := E.nx } σ'
@[simp] def gFor (fi : GA) (gt : GG) (g : GS) (E : Ed) (σ : List SV) : Prop := fi σ fun ds => forG gt g ds E σ
theorem sd_for {tg iter : Expr} {fi : GA} {gt : GG} (hp : PassesOwn (model X.prog X.w) X.A X.env X.xe) (hc : X.calm = true) (hi : PID B X tg iter fi) (hg : GD B X tg gt) (hb : SDs B X sts g) (hs : ∀ x, foldedSetIterable iter X.env x = pure x := by intro _; rfl) : SD B X (.For tg iter sts [] pos) (gFor fi gt g) := by
  obtain ⟨t, ht, hgt⟩ := hg.run
  refine ⟨ps_imp (ps_for hp hc hi.run ht hb.run hs) fun Dn s H ⟨σ, F, E, R, q, kk⟩ => ⟨σ, F, _, R, q, fun ds qd F1 H1 J g1 d1 ok => ?_⟩⟩
  have R1 := R.grow g1 d1
  refine ⟨fun i m s' H' => m = ds.length - i ∧ ∃ σ' F', Same F1 F' ∧ Rel B X.kn σ' s' F' H' ∧ forG gt g (ds.drop i) E σ', ⟨ds.length, rfl, σ, F1, Same.refl F1, R1, by simpa using qd⟩, ?_⟩
  rintro i m s' H' ⟨rfl, σ', F', e', R', q'⟩
  by_cases hlt : i < ds.length
  · obtain ⟨hgo, hy⟩ := ok.go F' H' i ds[i] e' R'.ex R'.deck (by simp [hlt])
    rw [List.drop_eq_getElem_cons hlt] at q'
    refine .inr ⟨hgo, fun s3 H3 => ∃ σ3 F3, Same F1 F3 ∧ Rel B X.kn σ3 s3 F3 H3 ∧ forG gt g (ds.drop (i + 1)) E σ3, fun s3 H3 z => ⟨ds.length - (i + 1), by omega, rfl, z⟩, fun x H2 hx => ?_⟩
    obtain ⟨F2, g2, d2, r2⟩ := hy x H2 hx
    have R2 := R'.grow g2 d2
    refine hgt ds[i] x σ' s' F2 H2 _ _ R2 r2 q' fun σ3 s3 R3 q3 => ⟨σ3, F2, _, R3, q3, ?_⟩
    have eF := e'.trans g2.ff
    exact ⟨fun σ4 s4 F4 H4 a r q4 => ⟨σ4, F4, eF.trans a, r, q4⟩, kk.rt, fun σ4 s4 F4 H4 a r q4 => kk.nx σ4 s4 F4 H4 (g1.ff.trans (eF.trans a)) r q4, fun σ4 s4 F4 H4 a r q4 => ⟨σ4, F4, eF.trans a, r, q4⟩⟩
  · rw [List.drop_eq_nil_of_le (by omega)] at q'
    exact .inl ⟨ok.stop F' H' i e' R'.ex (by omega), kk.nx σ' s' F' H' (g1.ff.trans e') R' q'⟩
end
end ND

/-! ND6: comprehensions, built-in functions -/
namespace ND
open PySem PySem.Spec L2
open PyProof.Rows (envOfC)

/-! ### lists by comprehension -/
@[simp] def wipeD (σ : List SV) : List Nat → List SV
  | [] => σ
  | v :: vs => (wipeD σ vs).set v .no
theorem Rel.wipe {B : Bs} {K : Kn} {σ : List SV} {s : L2.St} {F H : Hp} (R : Rel B K σ s F H) : ∀ vs : List Nat, Rel B K (wipeD σ vs) (L2.wipe s vs) F H
  | [] => R
  | v :: vs => (Rel.wipe R vs).drop
theorem set_set_ne {α : Type} {l : List α} {i j : Nat} {a b : α} (h : i ≠ j) : (l.set i a).set j b = (l.set j b).set i a := List.set_comm a b h
theorem wipe_set {s : L2.St} {i : Nat} {v : Option V} : ∀ {vs : List Nat}, i ∈ vs → L2.wipe (s.set i v) vs = L2.wipe s vs
  | w :: vs, h => by
    unfold L2.wipe
    by_cases e : i ∈ vs
    · rw [wipe_set e]
    · have e2 : i = w := by
        rcases List.mem_cons.mp h with h | h
        · exact h
        · exact absurd h e
      subst e2
      have key : ∀ (us : List Nat), i ∉ us → L2.wipe (s.set i v) us = (L2.wipe s us).set i v := by
        intro us
        induction us with
        | nil => intro _; rfl
        | cons u us ih =>
          intro hu
          unfold L2.wipe
          rw [ih (fun z => hu (List.mem_cons_of_mem _ z)), set_set_ne (fun z => hu (by rw [z]; exact List.mem_cons_self))]
      rw [key vs e, List.set_set]
theorem wipe_idem (s : L2.St) : ∀ vs : List Nat, L2.wipe (L2.wipe s vs) vs = L2.wipe s vs := by
  have key : ∀ (ws vs : List Nat), (∀ i ∈ ws, i ∈ vs) → L2.wipe (L2.wipe s ws) vs = L2.wipe s vs := by
    intro ws
    induction ws with
    | nil => intro vs _; rfl
    | cons w ws ih =>
      intro vs h
      show L2.wipe ((L2.wipe s ws).set w none) vs = _
      rw [wipe_set (h w List.mem_cons_self)]
      exact ih vs fun i hi => h i (List.mem_cons_of_mem _ hi)
  exact fun vs => key vs vs fun _ h => h
theorem wipe_sets {own : List Nat} : ∀ {is : List Nat} {vs : List V} {s : L2.St}, (∀ i ∈ is, i ∈ own) → L2.wipe (setAllV is vs s) own = L2.wipe s own
  | [], _, _, _ => rfl
  | _ :: _, [], _, _ => rfl
  | i :: is, v :: vs, s, h => by
    show L2.wipe (setAllV is vs (s.set i (some v))) own = _
    rw [wipe_sets fun j hj => h j (List.mem_cons_of_mem _ hj), wipe_set (h i List.mem_cons_self)]
/-- a comprehension's target -/
structure CTg (B : Bs) (K : Kn) (own : List Nat) (t : TG) (gt : GG) : Prop where
  run : ∀ d v σ s F H (Qd : List SV → Prop) (Q : L2.St → Hp → Prop), Rel B K σ s F H → Rep K F v d → gt d σ Qd → (∀ σ' s', Rel B K σ' s' F H → L2.wipe s' own = L2.wipe s own → Qd σ' → Q s' H) → t v s H Q
section
variable {B : Bs} {X : Cx} {K : Kn} {own : List Nat}
theorem ct_name {i : Nat} (h : i ∈ own) : CTg B K own (gName i) (ggName i) := ⟨fun d v σ s F H Qd Q R r q k => k _ _ (R.set r) (wipe_set h) q⟩
abbrev tgNames (K : PySem.W.Frag) (is : List Nat) : TG := L2.gTup K is.length fun vs σ H Q => vs.length = is.length ∧ Q (setAllV is vs σ) H
theorem ct_tup {is : List Nat} (h : ∀ i ∈ is, i ∈ own) : CTg B K own (tgNames K.K is) (ggTup is) := ⟨fun d v σ s F H Qd Q R r ⟨ds, e, hl, q⟩ k => by
  subst e
  cases r with
  | tup h' r => exact ⟨_, _, rfl, same_t R.ex h', by rw [r.length]; exact hl, by rw [r.length]; exact hl, k _ _ (R.sets r) (wipe_sets h) q⟩⟩
theorem pg_names {is : List Nat} {ts : List Expr} {kt : Nat} {pos : Pos} (hc : X.calm = true) (hn : NamesAt X ts is) (hl : (assignEach ts X.env).length = is.length := by rfl) (hst : (assignEach ts X.env).findIdx? (·.1) = none := by rfl) : PG X (.Tuple ts kt pos) (tgNames X.K is) := pg_tup hc hn.run hl hst
structure TDs (B : Bs) (X : Cx) (ifs : List Expr) (f : GT) : Prop where
  run : PTs X ifs (LT B X.kn f)
@[simp] def gYes (_ : List SV) (Q : Bool → Prop) : Prop := Q true
theorem tds_nil : TDs B X [] gYes := ⟨⟨fun pins s σ H Q I ⟨σ', F, Qd, R, q, k⟩ => pts_nil.run pins s σ H Q I (k _ q F H (Grow.refl R.ex) R.deck)⟩⟩
theorem tds_one {c : Expr} {ft : GT} (h : TD B X c ft) : TDs B X [c] ft := ⟨pts_one h.run⟩
def lcG (gt : GG) (ft : GT) (fe : GE) (own : List Nat) (σ : List SV) (Q : List D → Prop) : List D → List D → Prop
  | [], acc => Q acc
  | d :: ds, acc => gt d (wipeD σ own) fun σ2 => ft σ2 fun b => if b = true then fe σ2 fun y => acc.length < sizeLine ∧ lcG gt ft fe own σ Q ds (acc ++ [y]) else lcG gt ft fe own σ Q ds acc
@[simp] def gLc (fi : GA) (gt : GG) (ft : GT) (fe : GE) (own : List Nat) (σ : List SV) (Q : List D → Prop) : Prop := fi σ fun ds => lcG gt ft fe own σ Q ds []
theorem Grow.write {W : WT} {F H F' H' : Hp} {p : Addr} {o : HO} (g : Grow W F H F' H') (hp : H p = none) (fp : F' p = none) : Grow W F H F' (upd H' p o) :=
  ⟨g.ff, fun a u e => by
    rw [upd_ne fun z => by rw [z, fp] at e; cases e]
    exact g.fh a u e, fun a u e w nt => by
    rw [upd_ne fun z => by rw [z, hp] at e; cases e]
    exact g.hh a u e w nt, g.new, fun a e => upd_keep (g.keep a e)⟩
theorem DeckIn.write {W : WT} {F H F' H' : Hp} {p : Addr} {o : HO} (d0 : DeckIn W F H) (d : DeckIn W F' H') (hp : H p = none) (nx : ∀ φ, H' p ≠ some (.ext φ)) (nt : NT o := by intro _ z; cases z) : DeckIn W F' (upd H' p o) :=
  d.keep (fun _ _ => rfl) (fun a w => upd_ne fun z => (d0.w w).2 (by rw [z]; exact hp)) (fun a φ e => by rw [upd_ne (fun z => nx φ (by rw [← z]; exact e))]; exact e) d.nf (ot_upd nt)
theorem lc_run {fi : GA} {gt : GG} {ft : GT} {fe : GE} {t : TG} {own : List Nat} {s : L2.St} {H : Hp} {Q : VK} (ct : CTg B K own t gt) (h : LF B K (gLc fi gt ft fe own) s H Q) : tLc (LI B K fi) t (LT B K ft) (LE B K fe) own s H Q := by
  obtain ⟨σ, F, Qd, R, q, k⟩ := h
  refine ⟨σ, F, _, R, q, fun ds qds F1 H1 J g1 d1 okJ L hL => ?_⟩
  refine ⟨fun i m H' => m = ds.length - i ∧ ∃ F' acc vs, Grow B.W F1 H1 F' H' ∧ DeckIn B.W F' H' ∧ F' L = none ∧ H' L = some (.lst vs) ∧ Reps K F' vs acc ∧ lcG gt ft fe own σ Qd (ds.drop i) acc, ⟨ds.length, rfl, F1, [], [], Grow.laid g1.fh hL, d1.laid hL, g1.fh.free hL, upd_same, .nil, by simpa using qds⟩, ?_⟩
  rintro i m H' ⟨rfl, F', acc, vs, g', dk', fL, hv, rv, q'⟩
  by_cases hlt : i < ds.length
  · obtain ⟨hgo, hy⟩ := okJ.go F' H' i ds[i] g'.ff g'.fh dk' (by simp [hlt])
    rw [List.drop_eq_getElem_cons hlt] at q'
    refine .inr ⟨hgo, fun H3 => ∃ F3 acc3 vs3, Grow B.W F1 H1 F3 H3 ∧ DeckIn B.W F3 H3 ∧ F3 L = none ∧ H3 L = some (.lst vs3) ∧ Reps K F3 vs3 acc3 ∧ lcG gt ft fe own σ Qd (ds.drop (i + 1)) acc3, fun H3 z => ⟨ds.length - (i + 1), by omega, rfl, z⟩, fun x H2 hx => ?_⟩
    obtain ⟨F2, g2, d2, r2⟩ := hy x H2 hx
    have R2 := ((R.grow g1 d1).grow (g'.trans g2) d2).wipe own
    have nW : ¬ InW B.W L := fun w => (d1.w w).2 hL
    have key : ∀ {F3 H3 : Hp}, Grow B.W F' H' F3 H3 → F3 L = none ∧ H3 L = some (.lst vs) := fun {F3 H3} g3 => ⟨g3.new L fL (by rw [hv]; exact Option.some_ne_none _), g3.hh L _ hv nW (by intro _ z; cases z)⟩
    refine ct.run ds[i] x _ _ F2 H2 _ _ R2 r2 q' fun σ3 s3 R3 hw q3 => ⟨by rw [hw]; exact wipe_idem _ _, σ3, F2, _, R3, q3, fun b qb F3 H3 g3 d3 => ?_⟩
    cases b with
    | false =>
      have g23 := g2.trans g3
      exact ⟨F3, acc, vs, g'.trans g23, d3, (key g23).1, (key g23).2, rv.mono g23.ff, by simpa using qb⟩
    | true =>
      refine ⟨σ3, F3, _, R3.grow g3 d3, qb, fun y ⟨hz, qy⟩ F4 H4 v g4 d4 r4 => ?_⟩
      have g24 := (g2.trans g3).trans g4
      have rv4 := rv.mono g24.ff
      exact ⟨vs, (key g24).2, by rw [rv.length]; exact hz, F4, acc ++ [y], vs ++ [v], (g'.trans g24).write hL (key g24).1, d1.write d4 hL (fun φ z => by rw [(key g24).2] at z; cases z), (key g24).1, upd_same, rv4.append (.cons r4 .nil), qy⟩
  · rw [List.drop_eq_nil_of_le (by omega)] at q'
    exact .inl ⟨okJ.stop F' H' i g'.ff g'.fh (by omega), k acc q' F' H' L vs (g1.trans g') dk' (g1.back hL) fL hv rv⟩
theorem fd_lc {elt tg iter : Expr} {ifs : List Expr} {scope : Scope} {own : List (Str × Nat)} {pos : Pos} {fi : GA} {gt : GG} {ft : GT} {fe : GE} {t : TG} (hc : X.calm = true) (hN : X.N.Nodup) (hi : PID B X tg iter fi) (ok : BlkOk X.N X.env.scope scope own)
    (ct : CTg B X.kn (own.map (·.2)) t gt) (hg : ∀ (s : Shared) (H : Hp) (C : Addr) (cl : List (Str × Addr)) (fp : List Addr), PG (X.blk s H scope (compEnvC scope cl C X.env) fp) tg t)
    (ht : ∀ (s : Shared) (H : Hp) (C : Addr) (cl : List (Str × Addr)) (fp : List Addr), TDs B (X.blk s H scope (compEnvC scope cl C X.env) fp) ifs ft)
    (he : ∀ (s : Shared) (H : Hp) (C : Addr) (cl : List (Str × Addr)) (fp : List Addr), ED B (X.blk s H scope (compEnvC scope cl C X.env) fp) elt fe) (hs : ∀ x, foldedSetIterable iter X.env x = pure x := by intro _; rfl) :
    FD B X (.ListComp elt [⟨tg, iter, ifs, 0⟩] scope pos) (gLc fi gt ft fe (own.map (·.2))) :=
  ⟨pe_imp (pe_lc (te := LE B X.kn fe) (tt := LT B X.kn ft) hc hN hi.run ok hg (fun s H C cl fp => (ht s H C cl fp).run) (fun s H C cl fp => (he s H C cl fp).run) hs) fun s H Q h => lc_run ct h⟩
/-- y = [..], a list of one's own, or data -/
theorem sd_setLcO {i : Nat} {y : Str} {py : Pos} {elt tg iter : Expr} {ifs : List Expr} {scope : Scope} {own : List (Str × Nat)} {pos spos : Pos} {fi : GA} {gt : GG} {ft : GT} {fe : GE} {t : TG} (hc : X.calm = true) (hN : X.N.Nodup) (hy : X.N[i]? = some y) (hyl : X.env.scope.names.lookup y = some .local)
    (hsw : swapsWith (.ListComp elt [⟨tg, iter, ifs, 0⟩] scope pos) (some (.Name y py)) spos.line X.env = pure true) (hi : PID B X tg iter fi) (ok : BlkOk X.N X.env.scope scope own)
    (ct : CTg B X.kn (own.map (·.2)) t gt) (hg : ∀ (s : Shared) (H : Hp) (C : Addr) (cl : List (Str × Addr)) (fp : List Addr), PG (X.blk s H scope (compEnvC scope cl C X.env) fp) tg t)
    (ht : ∀ (s : Shared) (H : Hp) (C : Addr) (cl : List (Str × Addr)) (fp : List Addr), TDs B (X.blk s H scope (compEnvC scope cl C X.env) fp) ifs ft)
    (he : ∀ (s : Shared) (H : Hp) (C : Addr) (cl : List (Str × Addr)) (fp : List Addr), ED B (X.blk s H scope (compEnvC scope cl C X.env) fp) elt fe) (hs : ∀ x, foldedSetIterable iter X.env x = pure x := by intro _; rfl) :
    SD B X (.Assign [.Name y py] (.ListComp elt [⟨tg, iter, ifs, 0⟩] scope pos) spos) (gSetL i (gLc fi gt ft fe (own.map (·.2)))) :=
  ⟨ps_imp (ps_setLc (te := LE B X.kn fe) (tt := LT B X.kn ft) hc hN hy hyl hsw hi.run ok hg (fun s H C cl fp => (ht s H C cl fp).run) (fun s H C cl fp => (he s H C cl fp).run) hs) fun Dn s H ⟨σ, F, E, R, q, k⟩ =>
    lc_run ct ⟨σ, F, _, R, q, fun ds qd F' H' p vs g dk hp fp ep r => k.nx _ _ F' H' g.ff (R.setNew (x := .ol ds) g dk hp fp ⟨rfl, vs, ep, r⟩) qd⟩⟩
theorem sd_setLc {i : Nat} {y : Str} {py : Pos} {elt tg iter : Expr} {ifs : List Expr} {scope : Scope} {own : List (Str × Nat)} {pos spos : Pos} {fi : GA} {gt : GG} {ft : GT} {fe : GE} {t : TG} (hc : X.calm = true) (hN : X.N.Nodup) (hy : X.N[i]? = some y) (hyl : X.env.scope.names.lookup y = some .local)
    (hsw : swapsWith (.ListComp elt [⟨tg, iter, ifs, 0⟩] scope pos) (some (.Name y py)) spos.line X.env = pure true) (hi : PID B X tg iter fi) (ok : BlkOk X.N X.env.scope scope own)
    (ct : CTg B X.kn (own.map (·.2)) t gt) (hg : ∀ (s : Shared) (H : Hp) (C : Addr) (cl : List (Str × Addr)) (fp : List Addr), PG (X.blk s H scope (compEnvC scope cl C X.env) fp) tg t)
    (ht : ∀ (s : Shared) (H : Hp) (C : Addr) (cl : List (Str × Addr)) (fp : List Addr), TDs B (X.blk s H scope (compEnvC scope cl C X.env) fp) ifs ft)
    (he : ∀ (s : Shared) (H : Hp) (C : Addr) (cl : List (Str × Addr)) (fp : List Addr), ED B (X.blk s H scope (compEnvC scope cl C X.env) fp) elt fe) (hs : ∀ x, foldedSetIterable iter X.env x = pure x := by intro _; rfl) :
    SD B X (.Assign [.Name y py] (.ListComp elt [⟨tg, iter, ifs, 0⟩] scope pos) spos) (gSet i (gFrz (gLc fi gt ft fe (own.map (·.2))))) :=
  ⟨ps_imp (ps_setLc (te := LE B X.kn fe) (tt := LT B X.kn ft) hc hN hy hyl hsw hi.run ok hg (fun s H C cl fp => (ht s H C cl fp).run) (fun s H C cl fp => (he s H C cl fp).run) hs) fun Dn s H ⟨σ, F, E, R, q, k⟩ =>
    lc_run ct ⟨σ, F, _, R, q, fun ds qd F' H' p vs g dk hp fp ep r =>
      k.nx _ _ (upd F' p (.lst vs)) H' (g.freeze hp fp ep).ff ((R.grow (g.freeze hp fp ep) (R.deck.freeze dk hp)).set (.lst upd_same (r.mono (same_new fp)))) qd⟩⟩
end
end ND

/-! ND7: built-in functions by data -/
namespace ND
open PySem PySem.Spec L2
open PyProof.Rows (envOfC)

/-- a built-in function of data -/
def LCa (B : Bs) (K : Kn) (g : List D → (D → Prop) → Prop) : List V → Hp → VK → Prop := fun vs H Q => ∃ F ds Qd, Same F H ∧ DeckIn B.W F H ∧ RepBs B.W K F H vs ds ∧ g ds Qd ∧ Fin B K F H Qd Q
@[simp] def gBlt (g : List D → (D → Prop) → Prop) (fs : GA) (σ : List SV) (Q : D → Prop) : Prop := fs σ fun ds => g ds Q
section
variable {B : Bs} {X : Cx} {e : Expr} {es : List Expr} {x : Str} {p pos : Pos} {fs : GA} {id T : String} {g : List D → (D → Prop) → Prop}
theorem callR_by {f : Value} {r' : List V → Hp → VK → Prop} (w : ∀ vs H Q, r' vs H Q → ∃ r, CallR X f r ∧ r vs H Q) : CallR X f r' := fun pins s σ H xs us Q I rx q => by
  obtain ⟨r, h, q'⟩ := w _ _ _ q
  exact h pins s σ H xs us Q I rx q'
theorem tcb_of {s : L2.St} {H : Hp} {Q : VK} (h : LE B X.kn (gBlt g fs) s H Q) : tCB (LCa B X.kn g) (LAB B X.kn fs) s H Q := by
  obtain ⟨σ, F, Qd, R, q, k⟩ := h
  exact ⟨σ, F, _, R, q, fun ds qd F1 H1 vs g1 d1 r1 => ⟨F1, ds, Qd, g1.fh, d1, r1, qd, k.more g1⟩⟩
theorem ed_callB (hc : CallR X (.builtin id) (LCa B X.kn g)) (hg : Gl X x) (hm : X.mg x = none) (hv : bootBuiltins x = some (.builtin id)) (ha : ABD B X (e :: es) fs) (hn : x ≠ "__name__" := by decide) (hdb : (x == ("__debug__" : Str)) = false := by decide)
    (he : starEach (e :: es) X.env = (false, eval e X.env) :: starEach es X.env := by rfl) (hpl : (backTo pos (starEach es X.env)).any (·.1) = false := by rfl) : ED B X (.Call (.Name x p) (e :: es) [] pos) (gBlt g fs) :=
  ⟨pe_imp (pe_callB hc hg hm hv ha.run hn hdb he hpl) fun s H Q h => tcb_of h⟩
theorem ed_callTy (hc : CallR X (.type T) (LCa B X.kn g)) (hg : Gl X x) (hm : X.mg x = none) (hv : bootBuiltins x = some (.type T)) (ha : ABD B X (e :: es) fs) (hn : x ≠ "__name__" := by decide) (hdb : (x == ("__debug__" : Str)) = false := by decide)
    (he : starEach (e :: es) X.env = (false, eval e X.env) :: starEach es X.env := by rfl) (hpl : (backTo pos (starEach es X.env)).any (·.1) = false := by rfl) : ED B X (.Call (.Name x p) (e :: es) [] pos) (gBlt g fs) :=
  ⟨pe_imp (pe_callTy hc hg hm hv ha.run hn hdb he hpl) fun s H Q h => tcb_of h⟩
/-- a module's name for a built-in function -/
theorem ed_callFun (hc : CallR X (.builtin id) (LCa B X.kn g)) (hg : Gl X x) (hm : X.mg x = some (.builtin id)) (ha : ABD B X (e :: es) fs) (hdb : (x == ("__debug__" : Str)) = false := by decide)
    (he : starEach (e :: es) X.env = (false, eval e X.env) :: starEach es X.env := by rfl) (hpl : (backTo pos (starEach es X.env)).any (·.1) = false := by rfl) : ED B X (.Call (.Name x p) (e :: es) [] pos) (gBlt g fs) :=
  ⟨pe_imp (pe_callBfun hc hg hm ha.run hdb he hpl) fun s H Q h => tcb_of h⟩
/-- a name of a built-in type -/
theorem ed_ty (hg : Gl X x) (hm : X.mg x = none) (hv : bootBuiltins x = some (.type T)) (hn : x ≠ "__name__" := by decide) (hdb : (x == ("__debug__" : Str)) = false := by decide) : ED B X (.Name x pos) (gC (.opq (.ty T))) :=
  ed_c (v := .ty T) (pe_bltn hg hm hv rfl hn hdb) fun _ => .opq _

theorem rb1 {W : WT} {K : Kn} {F H : Hp} {vs : List V} {d : D} (h : RepBs W K F H vs [d]) : ∃ v, vs = [v] ∧ RepB W K F H v d := by
  cases h with
  | cons h t =>
    cases t
    exact ⟨_, rfl, h⟩
theorem rb2 {W : WT} {K : Kn} {F H : Hp} {vs : List V} {d d' : D} (h : RepBs W K F H vs [d, d']) : ∃ v u, vs = [v, u] ∧ RepB W K F H v d ∧ RepB W K F H u d' := by
  cases h with
  | cons h t =>
    obtain ⟨u, rfl, h2⟩ := rb1 t
    exact ⟨_, _, rfl, h, h2⟩
/-! the answers -/
def lenD : List D → (D → Prop) → Prop
  | [.lst xs], Q => Q (.int xs.length)
  | [.tup xs], Q => Q (.int xs.length)
  | [.str x], Q => x.length ≤ sizeLine ∧ Q (.int x.length)
  | [.dic ks], Q => Q (.int ks.length)
  | _, _ => False
theorem repKs_len {K : Kn} {F : Hp} : ∀ {v : List (Key × V)} {d : List (Key × D)}, RepKs K F v d → v.length = d.length
  | _, _, .nil => rfl
  | _, _, .cons _ t => by rw [List.length_cons, List.length_cons, repKs_len t]
theorem c_len : CallR X (.builtin "len") (LCa B X.kn lenD) := callR_by fun vs H Q ⟨F, ds, Qd, e, dk, r, q, k⟩ => by
  unfold lenD at q
  split at q
  · obtain ⟨v, rfl, r1⟩ := rb1 r
    obtain ⟨a, us, rfl, h1, h2⟩ := r1.lst e
    exact ⟨_, call_len_seq, a, us, rfl, .inl (SqL.of h1), by rw [h2.length]; exact k.here e dk q (.int _)⟩
  · obtain ⟨v, rfl, r1⟩ := rb1 r
    obtain ⟨a, us, rfl, _, h1, h2⟩ := r1.tup e
    exact ⟨_, call_len_seq, a, us, rfl, .inr h1, by rw [h2.length]; exact k.here e dk q (.int _)⟩
  · obtain ⟨v, rfl, r1⟩ := rb1 r
    exact ⟨_, call_len_str, _, by rw [r1.str], q.1, k.here e dk q.2 (.int _)⟩
  · obtain ⟨v, rfl, r1⟩ := rb1 r
    obtain ⟨a, us, rfl, h1, h2⟩ := r1.dic e
    exact ⟨_, call_lenD, a, us, rfl, h1, by rw [repKs_len h2]; exact k.here e dk q (.int _)⟩
  · exact q.elim
def intD : List D → (D → Prop) → Prop
  | [.int i], Q => Q (.int i)
  | [.bl b], Q => Q (.int (if b = true then 1 else 0))
  | [.str x], Q => ∃ n, intText? x = some n ∧ x.length ≤ 640 ∧ Q (.int n)
  | _, _ => False
theorem c_int : CallR X (.type "int") (LCa B X.kn intD) := callR_by fun vs H Q ⟨F, ds, Qd, e, dk, r, q, k⟩ => by
  unfold intD at q
  split at q
  · obtain ⟨v, rfl, r1⟩ := rb1 r
    exact ⟨_, call_int1, .inl ⟨_, by rw [r1.int], k.here e dk q (.int _)⟩⟩
  · obtain ⟨v, rfl, r1⟩ := rb1 r
    exact ⟨_, call_int1, .inr ⟨_, by rw [r1.bl], k.here e dk q (.int _)⟩⟩
  · obtain ⟨v, rfl, r1⟩ := rb1 r
    obtain ⟨n, h1, h2, h3⟩ := q
    exact ⟨_, call_int_str, _, n, by rw [r1.str], h1, h2, k.here e dk h3 (.int _)⟩
  · exact q.elim
def boolD : List D → (D → Prop) → Prop
  | [.int i], Q => Q (.bl (i != 0))
  | [.bl b], Q => Q (.bl b)
  | _, _ => False
theorem c_bool : CallR X (.type "bool") (LCa B X.kn boolD) := callR_by fun vs H Q ⟨F, ds, Qd, e, dk, r, q, k⟩ => by
  unfold boolD at q
  split at q
  · obtain ⟨v, rfl, r1⟩ := rb1 r
    exact ⟨_, call_bool1, .inl ⟨_, by rw [r1.int], k.here e dk q (.bl _)⟩⟩
  · obtain ⟨v, rfl, r1⟩ := rb1 r
    exact ⟨_, call_bool1, .inr ⟨_, by rw [r1.bl], k.here e dk q (.bl _)⟩⟩
  · exact q.elim
def absD : List D → (D → Prop) → Prop
  | [.int i], Q => Q (.int (if i < 0 then -i else i))
  | _, _ => False
theorem c_abs : CallR X (.builtin "abs") (LCa B X.kn absD) := callR_by fun vs H Q ⟨F, ds, Qd, e, dk, r, q, k⟩ => by
  unfold absD at q
  split at q
  · obtain ⟨v, rfl, r1⟩ := rb1 r
    exact ⟨_, call_abs, _, by rw [r1.int], k.here e dk q (.int _)⟩
  · exact q.elim
def max2D : List D → (D → Prop) → Prop
  | [.int i, .int j], Q => Q (.int (if j > i then j else i))
  | _, _ => False
theorem c_max2 (hc : X.calm = true) : CallR X (.builtin "max") (LCa B X.kn max2D) := callR_by fun vs H Q ⟨F, ds, Qd, e, dk, r, q, k⟩ => by
  unfold max2D at q
  split at q
  · obtain ⟨v, u, rfl, r1, r2⟩ := rb2 r
    exact ⟨_, call_max2 hc, _, _, by rw [r1.int, r2.int], k.here e dk q (.int _)⟩
  · exact q.elim
def min2D : List D → (D → Prop) → Prop
  | [.int i, .int j], Q => Q (.int (if j < i then j else i))
  | _, _ => False
theorem c_min2 (hc : X.calm = true) : CallR X (.builtin "min") (LCa B X.kn min2D) := callR_by fun vs H Q ⟨F, ds, Qd, e, dk, r, q, k⟩ => by
  unfold min2D at q
  split at q
  · obtain ⟨v, u, rfl, r1, r2⟩ := rb2 r
    exact ⟨_, call_min2 hc, _, _, by rw [r1.int, r2.int], k.here e dk q (.int _)⟩
  · exact q.elim
def gcdD : List D → (D → Prop) → Prop
  | [.int i, .int j], Q => Q (.int ((Nat.gcd i.natAbs j.natAbs : Nat) : Int))
  | _, _ => False
theorem c_gcd : CallR X (.builtin "math.gcd") (LCa B X.kn gcdD) := callR_by fun vs H Q ⟨F, ds, Qd, e, dk, r, q, k⟩ => by
  unfold gcdD at q
  split at q
  · obtain ⟨v, u, rfl, r1, r2⟩ := rb2 r
    exact ⟨_, cr_gcd, _, _, by rw [r1.int, r2.int], k.here e dk q (.int _)⟩
  · exact q.elim
theorem isqrt_wide : CallR X (.builtin "math.isqrt") (fun vs H Q => ∃ a : Int, vs = [.int a] ∧ 0 ≤ a ∧ a.toNat.log2 < 13000 ∧ Q (.int ((Float64.isqrt a.toNat : Nat) : Int)) H) := by
  intro pins s σ H vs us Q I r h
  obtain ⟨a, rfl, h0, h1, q⟩ := h
  obtain ⟨u, rfl, t, rfl⟩ := vals1 r
  have h2 : a.toNat.log2 / 30 < 434 := Nat.div_lt_of_lt_mul (by omega)
  exact call_function_meets PySem.W.MGF.kind_isqrt PySem.W.MGF.plain_isqrt PySem.W.MGF.entry_isqrt (PySem.W.MGF.args_isqrt _) (PySem.W.mg_run_isqrt a t (by omega) (by omega) (by omega)).meets ⟨.int _, H, I.tok _, ⟨_, rfl⟩, q⟩
def isqrtD : List D → (D → Prop) → Prop
  | [.int i], Q => 0 ≤ i ∧ i.toNat.log2 < 13000 ∧ Q (.int ((Float64.isqrt i.toNat : Nat) : Int))
  | _, _ => False
theorem c_isqrt : CallR X (.builtin "math.isqrt") (LCa B X.kn isqrtD) := callR_by fun vs H Q ⟨F, ds, Qd, e, dk, r, q, k⟩ => by
  unfold isqrtD at q
  split at q
  · obtain ⟨v, rfl, r1⟩ := rb1 r
    exact ⟨_, isqrt_wide, _, by rw [r1.int], q.1, q.2.1, k.here e dk q.2.2 (.int _)⟩
  · exact q.elim

/-! isinstance with a built-in type -/
def tyD : D → Option String
  | .non => some "NoneType" | .bl _ => some "bool" | .int _ => some "int" | .str _ => some "str" | .tup _ => some "tuple" | .lst _ => some "list" | .dic _ => some "dict" | _ => none
def isTb (t T : String) : Bool := t == T || (t == "bool" && T == "int")
def knownT (T : String) : Bool := T == "int" || T == "bool" || T == "str" || T == "tuple" || T == "list" || T == "dict"
def isiB (T : String) (x : D) : Bool := match tyD x with | some t => isTb t T | none => false
def isiD : List D → (D → Prop) → Prop
  | [x, .opq (.ty T)], Q => knownT T = true ∧ (tyD x).isSome = true ∧ Q (.bl (isiB T x))
  | _, _ => False
theorem kitB_all : ∀ t ∈ ["NoneType", "bool", "int", "str", "tuple", "list", "dict"], ∀ T ∈ ["int", "bool", "str", "tuple", "list", "dict"], kitB t T = some (isTb t T) := by decide +kernel
theorem tyD_mem {x : D} {t : String} (h : tyD x = some t) : t ∈ ["NoneType", "bool", "int", "str", "tuple", "list", "dict"] := by
  cases x <;> simp only [tyD, Option.some.injEq, reduceCtorEq] at h <;> subst h <;> simp
theorem RepB.tyx {W : WT} {K : Kn} {F H : Hp} {v : V} {x : D} {t : String} (h : RepB W K F H v x) (e : Same F H) (ht : tyD x = some t) : TyX K.K H v (.type t) := by
  cases x <;> simp only [tyD, Option.some.injEq, reduceCtorEq] at ht <;> subst ht
  · rw [h.non]; exact .base .non
  · rw [h.bl]; exact .base (.bl _)
  · rw [h.int]; exact .base (.int _)
  · rw [h.str]; exact .base (.str _)
  · obtain ⟨a, us, rfl, _, h1, h2⟩ := h.tup e
    rcases h1 with (h1 | ⟨o, h1⟩) | ⟨o, its, n, h1, h2, _⟩
    · exact .base (.tup h1)
    · exact .fTuple h1
    · exact .kTuple h1 h2
  · obtain ⟨a, us, rfl, h1, h2⟩ := h.lst e
    exact .base (.lst h1)
  · obtain ⟨a, us, rfl, h1, h2⟩ := h.dic e
    exact .base (.dK h1)
theorem c_isi : CallR X (.builtin "isinstance") (LCa B X.kn isiD) := callR_by fun vs H Q ⟨F, ds, Qd, e, dk, r, q, k⟩ => by
  unfold isiD at q
  split at q
  · rename_i x T
    obtain ⟨v, u, rfl, r1, r2⟩ := rb2 r
    obtain ⟨h1, h2, h3⟩ := q
    obtain ⟨t, ht⟩ := Option.isSome_iff_exists.mp h2
    have hu := r2.opq
    subst hu
    refine ⟨_, call_isi, v, .ty T, .type t, .type T, isTb t T, rfl, .ty T, r1.tyx e ht, kit_ty (kitB_all t (tyD_mem ht) T ?_), k.here e dk ?_ (.bl _)⟩
    · simp only [knownT, Bool.or_eq_true, beq_iff_eq] at h1
      rcases h1 with ((((h | h) | h) | h) | h) | h <;> subst h <;> simp
    · have : isiB T x = isTb t T := by unfold isiB; rw [ht]
      rw [← this]
      exact h3
  · exact q.elim

/-! repr of plain data -/
def reprD : List D → (D → Prop) → Prop
  | [x], Q => pl 64 x = true ∧ (toPy x).showable = true ∧ (toPy x).shown.length ≤ sizeLine ∧ Q (.str (toPy x).shown)
  | _, _ => False
theorem c_repr (hG : X.A.guards = some []) (hu : X.A.units + 65 < cLine) : CallR X (.builtin "repr") (LCa B X.kn reprD) := fun pins s σ H vs us Q I rx ⟨F, ds, Qd, e, dk, r, q, k⟩ => by
  unfold reprD at q
  split at q
  · rename_i x
    obtain ⟨v, rfl, r1⟩ := rb1 r
    obtain ⟨h1, h2, h3, h4⟩ := q
    obtain ⟨u, rfl, ru⟩ := vals1 rx
    have fin : Q (.str (toPy x).shown) H := k.here e dk h4 (.str _)
    have sh := pl_shape 64 x h1
    have refs : ∀ a, v = .ref a → wpAny (model X.prog X.w) X.A (call (.builtin "repr") [u]) (EP X pins σ Q) X.xe s := fun a hv => by
      subst hv
      cases ru
      obtain ⟨as, rd⟩ := Dp.reads I _ _ _ (r1.dp e h1) rfl
      refine PySem.repr_of_reads' rd h2 (PyData.noDict_hsm (PyData.hasDict_of_canLay _ sh.1)) hG (by omega) (fun _ _ z => z) (fun h' u tk hk => ?_) h3
      exact ⟨.str _, H, I.kept (t' := tk) hk, ⟨_, rfl⟩, fin⟩
    cases x with
    | non =>
      have := r1.non
      subst this
      cases ru
      exact PySem.P.repr_of_none ⟨.str _, H, I.tok _, ⟨_, rfl⟩, by simpa [toPy, PyData.shown] using fin⟩
    | bl b =>
      have := r1.bl
      subst this
      cases ru
      exact PySem.P.repr_of_bool ⟨.str _, H, I.tok _, ⟨_, rfl⟩, by simpa [toPy, PyData.shown] using fin⟩
    | int i =>
      have := r1.int
      subst this
      obtain ⟨t, rfl⟩ := ru
      exact PySem.P.repr_of_int (by simpa [toPy, PyData.showable] using h2) ⟨.str _, H, I.tok _, ⟨_, rfl⟩, by simpa [toPy, PyData.shown] using fin⟩
    | str i =>
      have := r1.str
      subst this
      obtain ⟨t, rfl⟩ := ru
      exact PySem.P.repr_of_str ⟨.str _, H, I.tok _, ⟨_, rfl⟩, by simpa [toPy, PyData.shown] using fin⟩ (by simpa [toPy, PyData.shown] using h3)
    | tup xs =>
      obtain ⟨a, us, hv, _⟩ := r1.tup e
      exact refs a hv
    | lst xs =>
      obtain ⟨a, us, hv, _⟩ := r1.lst e
      exact refs a hv
    | dic _ => simp [pl] at h1
    | obj _ _ => simp [pl] at h1
    | opq _ => simp [pl] at h1
  · exact q.elim

/-! text * int -/
def repS : D → D → (D → Prop) → Prop
  | .str x, .int k, Q => 1 ≤ k ∧ x.length * k.toNat ≤ sizeLine ∧ x.length ≠ 0 ∧ Q (.str (Txt.mul x k))
  | _, _, _ => False
theorem o_repS : OpR X (binaryOp .Mult) (LO2 B X.kn repS) := fun pins s σ H x y v u Q I rx ry ⟨F, a, b, Qd, e, dk, r1, r2, q, k⟩ => by
  unfold repS at q
  split at q
  · rename_i z n
    obtain ⟨h1, h2, h0, h3⟩ := q
    have e1 := r1.str
    have e2 := r2.int
    subst e1 e2
    obtain ⟨t, rfl⟩ := rx
    obtain ⟨t', rfl⟩ := ry
    have hn : n.toNat ≤ z.length * n.toNat := Nat.le_mul_of_pos_left _ (by omega)
    have hs : (sizeLine : Nat) < 2 ^ 62 := by decide
    have hb : (z.length : Int) ≤ (2 ^ 63 - 1) / n := by
      rw [Int.le_ediv_iff_mul_le (by omega)]
      have e3 : (z.length : Int) * n = ((z.length * n.toNat : Nat) : Int) := by
        rw [Int.natCast_mul, Int.toNat_of_nonneg (by omega)]
      rw [e3]
      have : z.length * n.toNat < 2 ^ 62 := by omega
      have h5 : ((z.length * n.toNat : Nat) : Int) < ((2 ^ 62 : Nat) : Int) := Int.ofNat_lt.mpr this
      have h6 : ((2 ^ 62 : Nat) : Int) ≤ 2 ^ 63 - 1 := by decide
      omega
    refine PySem.SB.mul ⟨?_, fun _ _ => by omega, fun _ _ => ?_⟩ fun t' tk => ⟨.str _, H, I.tok _, ⟨_, rfl⟩, k.here e dk h3 (.str _)⟩
    · have hlt : n.toNat < 2 ^ 62 := by omega
      simp only [Bool.or_eq_false_iff, decide_eq_false_iff_not]
      have h7 : (2 : Int) ^ 63 = 9223372036854775808 := by decide
      have h8 : (2 : Nat) ^ 62 = 4611686018427387904 := by decide
      omega
    · unfold PySem.Builtin.Str.tooLong
      exact decide_eq_false (by omega)
  · exact q.elim
end
end ND

/-! ND8: defs by data -/
namespace ND
open PySem PySem.Spec L2
open PyProof.Rows (envOfC)

def startD (n : Nat) (ds : List D) : List SV := ds.map SV.d ++ List.replicate (n - ds.length) .no
theorem rel_start {W : WT} {K : Kn} {F H : Hp} {N : List Str} {vs : List V} {ds : List D} (e : Same F H) (dk : DeckIn W F H) (r : Reps K F vs ds) : Rel ⟨W, F, H⟩ K (startD N.length ds) (L2.start N vs) F H := by
  refine ⟨Grow.refl e, dk, dk, ?_, fun _ => none, ⟨fun i j a z => (nomatch z), fun i a z => (nomatch z)⟩, fun i x v e1 e2 => ?_⟩
  · unfold startD L2.start
    simp [r.length]
  · unfold startD at e1
    unfold L2.start at e2
    by_cases hi : i < ds.length
    · rw [List.getElem?_append_left (by simpa using hi)] at e1
      rw [List.getElem?_append_left (by simpa [r.length] using hi)] at e2
      rw [List.getElem?_map] at e1 e2
      cases ed : ds[i]? with
      | none =>
        rw [ed] at e1
        cases e1
      | some d =>
        rw [ed] at e1
        obtain ⟨u, h1, h2⟩ := r.get ed
        rw [h1] at e2
        cases e1
        cases e2
        exact h2
    · rw [List.getElem?_append_right (by simpa using hi)] at e1
      rw [List.getElem?_append_right (by simpa [r.length] using hi)] at e2
      have h1 := List.eq_of_mem_replicate (List.mem_of_getElem? e1)
      have h2 := List.eq_of_mem_replicate (List.mem_of_getElem? e2)
      subst h1 h2
      exact True.intro
/-- behind a def's body -/
@[simp] def endsD (Q : D → Prop) : Ed := { nx := fun _ => Q .non, rt := Q, bk := fun _ => False, ct := fun _ => False }
section
variable {P : Program} {w : World} {K : PySem.W.Frag} {mg : Str → Option Value} {base : Heap} {x qual : Str} {st : Stmt} {f : Addr} {fd : FuncData} {N ps : List Str} {k : Nat} {sp : DSp} {g : WD → (Er → Prop) → GS} {T : List (Addr × Str)}
abbrev cxD (P : Program) (w : World) (K : PySem.W.Frag) (mg : Str → Option Value) (base : Heap) (N : List Str) (qual : Str) (st : Stmt) (f : Addr) (cdv : Value) (A : Around) (outer : List Env) (s : Shared) (H : Hp) (E : XK) : Cx :=
  cxOf (L2.CX P w) P w K mg base N qual (defScope st) f cdv A outer s H E
theorem body_run {cdv : Value} {A : Around} {outer : List Env} {s : Shared} {H : Hp} {E : XK} {W : WD} {F : Hp} {ds : List D} {vs : List V} {Qd : D → Prop} {Q : VK} {R : Er → Prop} (hb : SDs ⟨⟨W, T⟩, F, H⟩ (cxD P w K mg base N qual st f cdv A outer s H E) (defBody st) (g W R))
    (e : Same F H) (dk : DeckIn ⟨W, T⟩ F H) (r : Reps ⟨K, mg⟩ F vs ds) (q : g W R (endsD Qd) (startD N.length ds)) (kf : Fin ⟨⟨W, T⟩, F, H⟩ ⟨K, mg⟩ F H Qd Q) :
    ∃ t, PSs (cxD P w K mg base N qual st f cdv A outer s H E) (defBody st) t ∧ t { nx := fun _ H' => Q .non H', rt := Q } (L2.start N vs) H :=
  ⟨_, hb.run, startD N.length ds, F, endsD Qd, rel_start e dk r, q, ⟨fun σ s F' H' _ R' qn => kf .non qn F' H' .non R'.base R'.deck .non, fun d v F' H' g' dk' r' qd => kf d qd F' H' v g' dk' r', fun _ _ _ _ _ _ z => z.elim, fun _ _ _ _ _ _ z => z.elim⟩⟩
theorem okD (F : Fun K x qual st f fd) (S : FnScope N ps (defScope st)) (hlen : ∀ W ds Q R, sp W ds Q R → ds.length = ps.length)
    (body : ∀ (cdv : Value) (A : Around) (outer : List Env) (s : Shared) (H : Hp) (E : XK) (W : WD) (F : Hp) (R : Er → Prop), Room k (A.deeper (envOfC qual (defScope st) s.heap.objs.size f cdv)) → FinE ⟨W, T⟩ ⟨K, mg⟩ F H R E →
      PassesOwn (model P w) (cxD P w K mg base N qual st f cdv A outer s H E).A (cxD P w K mg base N qual st f cdv A outer s H E).env (cxD P w K mg base N qual st f cdv A outer s H E).xe →
      Passes (L2.CX P w) (cxD P w K mg base N qual st f cdv A outer s H E) E → SDs ⟨⟨W, T⟩, F, H⟩ (cxD P w K mg base N qual st f cdv A outer s H E) (defBody st) (g W R))
    (law : ∀ W ds Q R, sp W ds Q R → g W R (endsD Q) (startD N.length ds)) : FnOk P w K mg base (L2.CX P w) (k + 1) f fd ps (liftSp ⟨K, mg⟩ T sp) := by
  refine F.okX S (fun vs H Q E ⟨W, F, ds, Qd, Rd, h1, h2, h3, h4, _⟩ => h3.length.trans (hlen _ _ _ _ h4)) fun cdv A outer s H vs Q E hr ⟨W, F, ds, Qd, Rd, h1, h2, h3, h4, h5, h6⟩ => ?_
  exact body_run (body cdv A outer s H E W F Rd hr h6 (passes_of rfl) (passes_call (takes_of rfl rfl rfl rfl) fun _ _ _ _ z => z)) h1 h2 h3 (law W ds Qd Rd h4) h5
theorem okG (F : Fun K x qual st f fd) (S : FnScope N ps (defScope st)) (hlen : ∀ W ds Q R, sp W ds Q R → ds.length = ps.length)
    (body : ∀ (cdv : Value) (A : Around) (outer : List Env) (s : Shared) (H : Hp) (E : XK) (W : WD) (F : Hp) (R : Er → Prop), (A.deeper (envOfC qual (defScope st) s.heap.objs.size f cdv)).guards = some [] → Room k (A.deeper (envOfC qual (defScope st) s.heap.objs.size f cdv)) → FinE ⟨W, T⟩ ⟨K, mg⟩ F H R E →
      PassesOwn (model P w) (cxD P w K mg base N qual st f cdv A outer s H E).A (cxD P w K mg base N qual st f cdv A outer s H E).env (cxD P w K mg base N qual st f cdv A outer s H E).xe →
      Passes (L2.CX P w) (cxD P w K mg base N qual st f cdv A outer s H E) E → SDs ⟨⟨W, T⟩, F, H⟩ (cxD P w K mg base N qual st f cdv A outer s H E) (defBody st) (g W R))
    (law : ∀ W ds Q R, sp W ds Q R → g W R (endsD Q) (startD N.length ds)) : FnG P w K mg base (k + 1) f fd ps (liftSp ⟨K, mg⟩ T sp) := by
  obtain ⟨oc, od, kV, doc, pm, an, cdv, ct, osl, rfl, lk, hcd⟩ := F.ex
  refine fn_ofG lk hcd S (fun vs H Q E ⟨W, F, ds, Qd, Rd, h1, h2, h3, h4, _⟩ => h3.length.trans (hlen _ _ _ _ h4)) fun A outer s H vs Q E hG hr ⟨W, F, ds, Qd, Rd, h1, h2, h3, h4, h5, h6⟩ => ?_
  exact body_run (body cdv A outer s H E W F Rd hG hr h6 (passes_of rfl) (passes_call (takes_of rfl rfl rfl rfl) fun _ _ _ _ z => z)) h1 h2 h3 (law W ds Qd Rd h4) h5
end

/-- the def of the name x keeps sp, at the level k -/
structure OkD (P : Program) (w : World) (K : PySem.W.Frag) (mg : Str → Option Value) (base : Heap) (T : List (Addr × Str)) (x : Str) (st : Stmt) (k : Nat) (ps : List Str) (sp : DSp) : Prop where
  ex : ∃ f fd, mg x = some (.ref f) ∧ Fun K x x st f fd ∧ FnOk P w K mg base (L2.CX P w) k f fd ps (liftSp ⟨K, mg⟩ T sp)
structure OkG (P : Program) (w : World) (K : PySem.W.Frag) (mg : Str → Option Value) (base : Heap) (T : List (Addr × Str)) (x : Str) (st : Stmt) (k : Nat) (ps : List Str) (sp : DSp) : Prop where
  ex : ∃ f fd, mg x = some (.ref f) ∧ Fun K x x st f fd ∧ FnG P w K mg base k f fd ps (liftSp ⟨K, mg⟩ T sp)
/-- how the def st binds by position, by keyword -/
abbrev BindsP (x : Str) (st : Stmt) (ps : List Str) : Prop := ∀ (kV doc pm : Value) (an : Option Addr) (cdv ct : Value) (us : List Value), us.length = ps.length → bindArgs (PySem.W.fnOf x x (defArgs st) (defBody st) (defScope st) .none kV doc pm an cdv ct) ⟨us, []⟩ = pure (ps.zip us)
abbrev BindsKw (x : Str) (st : Stmt) (ps ks : List Str) (n m : Nat) (pm : List Nat) : Prop := ∀ (kV doc pmv : Value) (an : Option Addr) (cdv ct : Value) (us ws : List Value), us.length = n → ws.length = m →
  bindArgs (PySem.W.fnOf x x (defArgs st) (defBody st) (defScope st) .none kV doc pmv an cdv ct) ⟨us, ks.zip ws⟩ = pure (ps.zip (permA n m pm us ws))
section
variable {B : Bs} {X : Cx} {k : Nat} {ps : List Str} {sp : DSp} {R : Er → Prop} {E : XK} {x : Str} {st : Stmt} {p pos : Pos} {e : Expr} {es : List Expr} {fs fk : GA} {ks : List Str} {kws : List Keyword} {n m : Nat} {pm : List Nat}
theorem ed_o (O : OkD X.prog X.w X.K X.mg X.base B.W.T x st k ps sp) (b : BindsP x st ps) (hr : Room k X.A) (hx : Passes (L2.CX X.prog X.w) X E) (hE : FinE B.W X.kn B.F B.H R E) (ha : AD B X (e :: es) fs) (hg : Gl X x := by rfl) (hdb : (x == ("__debug__" : Str)) = false := by decide)
    (he : starEach (e :: es) X.env = (false, eval e X.env) :: starEach es X.env := by rfl) (hpl : (backTo pos (starEach es X.env)).any (·.1) = false := by rfl) : ED B X (.Call (.Name x p) (e :: es) [] pos) (gCall sp B.W.p R fs) := by
  obtain ⟨f, fd, hm, F, G⟩ := O.ex
  exact ed_call G hr hg hm F.kp (F.binds b) hx hE ha hdb he hpl
theorem ed_g (O : OkG X.prog X.w X.K X.mg X.base B.W.T x st k ps sp) (b : BindsP x st ps) (hG : X.A.guards = some []) (hr : Room k X.A) (hx : Passes (L2.CX X.prog X.w) X E) (hE : FinE B.W X.kn B.F B.H R E) (ha : AD B X (e :: es) fs) (hg : Gl X x := by rfl) (hdb : (x == ("__debug__" : Str)) = false := by decide)
    (he : starEach (e :: es) X.env = (false, eval e X.env) :: starEach es X.env := by rfl) (hpl : (backTo pos (starEach es X.env)).any (·.1) = false := by rfl) : ED B X (.Call (.Name x p) (e :: es) [] pos) (gCall sp B.W.p R fs) := by
  obtain ⟨f, fd, hm, F, G⟩ := O.ex
  exact ed_callG G hG hr hg hm F.kp (F.binds b) hx hE ha hdb he hpl
theorem kb_of {K : PySem.W.Frag} {f : Addr} {fd : FuncData} (F : Fun K x x st f fd) (hp : ps ≠ []) (b : BindsKw x st ps ks n m pm) : KBinds K fd ps ks (permA n m pm) (permA n m pm) := by
  obtain ⟨oc, od, kV, doc, pmv, an, cdv, ct, osl, rfl, lk, hcd⟩ := F.ex
  exact kb_perm hp fun us ws h1 h2 => b kV doc pmv an cdv ct us ws h1 h2
theorem ed_ok (O : OkD X.prog X.w X.K X.mg X.base B.W.T x st k ps sp) (hp : ps ≠ []) (b : BindsKw x st ps ks n m pm) (hr : Room k X.A) (hx : Passes (L2.CX X.prog X.w) X E) (hE : FinE B.W X.kn B.F B.H R E) (ha : AD B X (e :: es) fs) (hkw : KD B X kws fk) (hg : Gl X x := by rfl)
    (hall : (backToKw pos (keywordEach kws X.env)).all (·.1.isSome) = true := by rfl) (hks : (backToKw pos (keywordEach kws X.env)).filterMap (·.1) = ks := by rfl)
    (hdb : (x == ("__debug__" : Str)) = false := by decide) (he : starEach (e :: es) X.env = (false, eval e X.env) :: starEach es X.env := by rfl)
    (hpl : ((backTo pos (starEach (e :: es) X.env)).any (·.1) || (backToKw pos (keywordEach kws X.env)).any (·.1.isNone)) = false := by rfl) : ED B X (.Call (.Name x p) (e :: es) kws pos) (gCallK sp n m pm B.W.p R fs fk) := by
  obtain ⟨f, fd, hm, F, G⟩ := O.ex
  exact ed_callK G hr hg hm F.kp (kb_of F hp b) hx hE ha hkw hall hks hdb he hpl
theorem ed_ok0 (O : OkD X.prog X.w X.K X.mg X.base B.W.T x st k ps sp) (hp : ps ≠ []) (b : BindsKw x st ps ks n m pm) (hr : Room k X.A) (hx : Passes (L2.CX X.prog X.w) X E) (hE : FinE B.W X.kn B.F B.H R E) (hkw : KD B X kws fk) (hg : Gl X x := by rfl)
    (hall : (backToKw pos (keywordEach kws X.env)).all (·.1.isSome) = true := by rfl) (hks : (backToKw pos (keywordEach kws X.env)).filterMap (·.1) = ks := by rfl)
    (hdb : (x == ("__debug__" : Str)) = false := by decide)
    (hpl : ((backTo pos (starEach [] X.env)).any (·.1) || (backToKw pos (keywordEach kws X.env)).any (·.1.isNone)) = false := by rfl) : ED B X (.Call (.Name x p) [] kws pos) (gCallK sp n m pm B.W.p R gNil fk) := by
  obtain ⟨f, fd, hm, F, G⟩ := O.ex
  exact ed_callK0 G hr hg hm F.kp (kb_of F hp b) hx hE hkw hall hks hdb hpl
end
end ND

/-! ND9: the deck: making it, drawing from it -/
namespace ND
open PySem PySem.Spec L2
open PyProof.Rows (envOfC)

theorem nbMax : bootBuiltins "max" = some (.builtin "max") := by decide +kernel
theorem nbMin : bootBuiltins "min" = some (.builtin "min") := by decide +kernel
theorem nbInt : bootBuiltins "int" = some (.type "int") := by decide +kernel
theorem nbBool : bootBuiltins "bool" = some (.type "bool") := by decide +kernel
theorem nbTuple : bootBuiltins "tuple" = some (.type "tuple") := by decide +kernel
theorem nbList : bootBuiltins "list" = some (.type "list") := by decide +kernel
theorem nbDict : bootBuiltins "dict" = some (.type "dict") := by decide +kernel
theorem nbStr : bootBuiltins "str" = some (.type "str") := by decide +kernel
theorem nbLen : bootBuiltins "len" = some (.builtin "len") := by decide +kernel
theorem nbAbs : bootBuiltins "abs" = some (.builtin "abs") := by decide +kernel
theorem nbIsi : bootBuiltins "isinstance" = some (.builtin "isinstance") := by decide +kernel
theorem nbRepr : bootBuiltins "repr" = some (.builtin "repr") := by decide +kernel

theorem nosl {x : Str} {j : Nat} {p : Pos} : NoSl (.Constant (.str x) j p) := fun _ _ => rfl
abbrev iM (t : TA) : TE := tCB (fun xs H Q => (∃ i, xs = [V.int i] ∧ Q (V.int i) H) ∨ ∃ k, xs = [V.bl k] ∧ Q (V.int (if k = true then 1 else 0)) H) t
abbrev aP (a b : TE) : TE := tOp (rI0 fun i j => V.int (i + j)) a b
abbrev mP (a b : TE) : TE := tOp (rI CMul fun i j => V.int (i * j)) a b
abbrev rP (a b : TE) : TE := tOp (rI (fun _ j => 0 < j) fun i j => V.int (i % j)) a b
abbrev fP (a b : TE) : TE := tOp (rI CDivW fun i j => V.int (i / j)) a b
abbrev dG (k : Str) : TE := tDGet (tVar 0) (tC (V.str k))
abbrev tDraw6 : TS :=
  tSeq (tAsg (rP (iM (tCons (mP (tVar 2) (tC (V.int 40692))) tNil)) (tC (V.int 2147483647))) (gName 2))
  (tRet (rP (iM (tCons (fP (tVar 2) (tC (V.int 64))) tNil)) (tVar 1)))
abbrev tDraw5 : TS :=
  tSeq (tAsg (rP (iM (tCons (aP (aP (mP (tVar 2) (tVar 2)) (mP (tC (V.int 52774)) (dG "draws"))) (tC (V.int 17))) tNil)) (tC (V.int 2147483399))) (gName 2)) tDraw6
abbrev tDraw4 : TS :=
  tSeq (tAsg (rP (iM (tCons (aP (mP (tVar 2) (tC (V.int 40014))) (tC (V.int 91))) tNil)) (tC (V.int 2147483563))) (gName 2)) tDraw5
abbrev tDraw3 (K : PySem.W.Frag) : TS :=
  tIfS (tTest (tOp (rNeD K) (dG "left") (tLst tNil)))
    (tSeq (tAsg (tBM0 K "list" rPop (dG "left")) (gName 3))
      (tSeq (tIfS (tTest (tOp (rI0 fun i j => V.bl (decide (j ≤ i))) (tVar 3) (tOp (rI CPow fun i j => V.int (i ^ j.toNat)) (tC (V.int 10)) (tC (V.int 18)))))
        (tSeq (tDrop (tBM K "list" rAppend (dG "left") (tCons (fP (tVar 3) (tCB (fun xs H Q => ∃ i j, xs = [V.int i, V.int j] ∧ Q (V.int (if j > i then j else i)) H) (tCons (tC (V.int 2)) (tCons (tVar 1) tNil)))) tNil)))
          (tRet (rP (iM (tCons (tVar 3) tNil)) (tVar 1))))
        tNext)
      (tAsg (aP (tVar 2) (rP (iM (tCons (tVar 3) tNil)) (tC (V.int 2147483629)))) (gName 2))))
    tNext
abbrev tDraw (c : Int) (K : PySem.W.Frag) : TS :=
  tSeq (sDPut (tVar 0) (tC (V.str "draws")) (aP (dG "draws") (tC (V.int 1))))
  (tSeq (tAsg (aP (dG "mixed") (mP (tC (V.int c)) (dG "draws"))) (gName 2))
  (tSeq (tDraw3 K) tDraw4))

theorem kl_d : (Sum.inr (PySem.Str.ofString "left") : Key) ≠ Sum.inr (PySem.Str.ofString "draws") := by decide +kernel
theorem km_d : (Sum.inr (PySem.Str.ofString "mixed") : Key) ≠ Sum.inr (PySem.Str.ofString "draws") := by decide +kernel
theorem kl_m : (Sum.inr (PySem.Str.ofString "left") : Key) ≠ Sum.inr (PySem.Str.ofString "mixed") := by decide +kernel
section
variable {H : Hp} {d l : Addr} {m n : Int} {ns : List Int}
theorem dg_left (h : H d = some (deckO l m n)) : DGet H d (.str "left") (some (.ref l)) := .inl ⟨_, .inr "left", .inl h, rfl, by rw [valV_pos rfl]⟩
theorem dg_mixed (h : H d = some (deckO l m n)) : DGet H d (.str "mixed") (some (.int m)) := .inl ⟨_, .inr "mixed", .inl h, rfl, by rw [valV_neg kl_m, valV_pos rfl]⟩
theorem dg_draws (h : H d = some (deckO l m n)) : DGet H d (.str "draws") (some (.int n)) := .inl ⟨_, .inr "draws", .inl h, rfl, by rw [valV_neg kl_d, valV_neg km_d, valV_pos rfl]⟩
theorem dp_draws (h : H d = some (deckO l m n)) (k : Int) : DPut H d (.str "draws") (.int k) (upd H d (deckO l m k)) := .inl ⟨_, .inr "draws", h, rfl, by show 3 < sizeLine; decide, by
  have e : putK [((Sum.inr "left" : Key), V.ref l), (Sum.inr "mixed", V.int m), (Sum.inr "draws", V.int n)] (Sum.inr "draws") (V.int k) = [((Sum.inr "left" : Key), V.ref l), (Sum.inr "mixed", V.int m), (Sum.inr "draws", V.int k)] := by
    unfold putK
    simp only [List.any_cons, decide_true, Bool.true_or, Bool.or_true, List.any_nil, if_true, List.map_cons, List.map_nil, kl_d, km_d, if_false]
  rw [e]
  rfl⟩
theorem dp_ints {K : PySem.W.Frag} : ∀ ns : List Int, DpAll K H (ns.map V.int) (ns.map PyData.int)
  | [] => .nil
  | n :: ns => .cons (.int n) (dp_ints ns)
theorem ints_lay : ∀ ns : List Int, PyData.canLayAll0 (ns.map PyData.int) = true ∧ PyData.depthAll (ns.map PyData.int) ≤ 1
  | [] => by simp [PyData.canLayAll0, PyData.depthAll]
  | n :: ns => by
    obtain ⟨h1, h2⟩ := ints_lay ns
    simp only [List.map_cons, PyData.canLayAll0, PyData.depthAll, PyData.canLay0, PyData.depth, Bool.true_and]
    exact ⟨h1, Nat.max_le.mpr ⟨Nat.zero_le _, h2⟩⟩
theorem ints_shaped (ns : List Int) : SeqAt.shaped (.list (ns.map PyData.int)) = true := by
  obtain ⟨h1, h2⟩ := ints_lay ns
  show ((PyData.list (ns.map PyData.int)).canLay0 && decide ((PyData.list (ns.map PyData.int)).depth ≤ 64)) = true
  have d1 : (PyData.list (ns.map PyData.int)).canLay0 = true := by simpa [PyData.canLay0] using h1
  have d2 : (PyData.list (ns.map PyData.int)).depth ≤ 64 := by
    simp only [PyData.depth]
    exact Nat.le_trans (Nat.succ_le_succ h2) (by decide)
  rw [d1, decide_eq_true d2]
  rfl
theorem ints_empty : ∀ ns : List Int, PyData.eqv (.list (ns.map PyData.int)) (.list []) = ns.isEmpty
  | [] => by simp [PyData.eqv, PyData.eqvAll]
  | n :: ns => by simp [PyData.eqv, PyData.eqvAll]

/-- what the deck has become -/
structure DkAt (d l : Addr) (H H' : Hp) (m n : Int) (ns : List Int) : Prop where
  hd : H' d = some (deckO l m n)
  hl : H' l = some (.lst (ns.map V.int))
  kp : ∀ a o, H a = some o → a ≠ d → a ≠ l → H' a = some o
  st : ∀ a, H a ≠ none → H' a ≠ none
  nt : ∀ a ps, H' a = some (.tbl ps) → H a = some (.tbl ps)
theorem DkAt.grow {F H' : Hp} {m' n' : Int} {ns' : List Int} {T : List (Addr × Str)} (h0 : DeckIn ⟨some (d, l), T⟩ F H) (e : Same F H) (h : DkAt d l H H' m' n' ns') (hl : ns'.length ≤ 63) (h1 : 0 ≤ m') (h2 : m' < 2147483587) : Grow ⟨some (d, l), T⟩ F H F H' ∧ DeckIn ⟨some (d, l), T⟩ F H' := by
  have z0 := h0.dk _ rfl
  have zd : ∀ a o, H a = some o → (∀ ks, o ≠ .dK ks) → (∀ xs, o ≠ .lst xs) → H' a = some o := fun a o q n1 n2 => by
    obtain ⟨_, _, _, e1, e2, _⟩ := z0.st
    refine h.kp a o q (fun z => ?_) (fun z => ?_)
    · rw [z, show H d = _ from e1] at q
      exact n1 _ (Option.some.inj q).symm
    · rw [z, show H l = _ from e2] at q
      exact n2 _ (Option.some.inj q).symm
  refine ⟨⟨Same.refl F, fun a o q => h.kp a o (e a o q) (fun z => ?_) (fun z => ?_), fun a o q w _ => h.kp a o q (fun z => w (.inl ⟨_, rfl, .inl z⟩)) fun z => w (.inl ⟨_, rfl, .inr z⟩), fun a q _ => q, h.st⟩, fun p hp => ?_, h0.tf, fun x hx => ?_, h0.nf, fun a ps e => h0.ot a ps (h.nt a ps e)⟩
  · have := z0.fd
    rw [← show a = d from z, q] at this
    cases this
  · have := z0.fl
    rw [← show a = l from z, q] at this
    cases this
  · cases hp
    exact ⟨z0.fd, z0.fl, z0.ne, ns', m', n', h.hd, h.hl, hl, h1, h2⟩
  · obtain ⟨ps, a1, a2, a3⟩ := h0.tb x hx
    refine ⟨ps, zd _ _ a1 (fun _ z => nomatch z) (fun _ z => nomatch z), a2, fun pos cv hc => ?_⟩
    obtain ⟨c, b1, b2⟩ := a3 pos cv hc
    exact ⟨c, b1, zd _ _ b2 (fun _ z => nomatch z) (fun _ z => nomatch z)⟩
theorem mod_lt' {a b : Int} (h : 0 < b) : 0 ≤ a % b ∧ a % b < b := ⟨Int.emod_nonneg _ (by omega), Int.emod_lt_of_pos _ h⟩
theorem small64 {a : Int} (h1 : 0 ≤ a) (h2 : a < 4294967296) : -(2 ^ 64) < a ∧ a < 2 ^ 64 := by
  have e : (2 : Int) ^ 64 = 18446744073709551616 := by decide
  omega
theorem draw6 {D : Ends} {k z : Int} {y : Option V} (hz : 0 ≤ z ∧ z < 2147483399) (hk : 0 < k) (hQ : ∀ r, 0 ≤ r → r < k → D.rt (.int r) H) : tDraw6 D [some (.ref d), some (.int k), some (.int z), y] H := by
  refine ⟨_, rfl, _, _, rfl, rfl, .inl (small64 hz.1 (by omega)), .inl ⟨_, rfl, _, _, rfl, rfl, (by show (0 : Int) < 2147483647; decide), ?_⟩⟩
  refine ⟨_, rfl, _, _, rfl, rfl, ⟨by decide, by decide⟩, .inl ⟨_, rfl, _, rfl, _, _, rfl, rfl, hk, ?_⟩⟩
  exact hQ _ (mod_lt' hk).1 (mod_lt' hk).2
theorem draw5 {D : Ends} {k z : Int} {y : Option V} (hd : H d = some (deckO l m n)) (hz : 0 ≤ z ∧ z < 2147483563) (hk : 0 < k) (hQ : ∀ r, 0 ≤ r → r < k → D.rt (.int r) H) : tDraw5 D [some (.ref d), some (.int k), some (.int z), y] H :=
  ⟨_, rfl, _, rfl, _, _, rfl, rfl, .inl (small64 hz.1 (by omega)), _, rfl, _, _, rfl, dg_draws hd, _, _, rfl, rfl, .inl (small64 (by decide) (by decide)), _, _, rfl, rfl, _, _, rfl, rfl, .inl ⟨_, rfl, _, _, rfl, rfl, (by show (0 : Int) < 2147483399; decide), draw6 (mod_lt' (by decide)) hk hQ⟩⟩
theorem draw4 {D : Ends} {k z : Int} {y : Option V} (hd : H d = some (deckO l m n)) (hk : 0 < k) (hQ : ∀ r, 0 ≤ r → r < k → D.rt (.int r) H) : tDraw4 D [some (.ref d), some (.int k), some (.int z), y] H :=
  ⟨_, rfl, _, _, rfl, rfl, .inr (small64 (by decide) (by decide)), _, _, rfl, rfl, .inl ⟨_, rfl, _, _, rfl, rfl, (by show (0 : Int) < 2147483563; decide), draw5 hd (mod_lt' (by decide)) hk hQ⟩⟩
theorem draw_law {K : PySem.W.Frag} {c : Int} {D : Ends} {k : Int} {y1 y2 : Option V} (hc : -(2 ^ 64) < c ∧ c < 2 ^ 64) (hd : H d = some (deckO l m n)) (hl : H l = some (.lst (ns.map V.int))) (hdl : d ≠ l) (hn : ns.length ≤ 63) (hk : 0 < k) (hk2 : k < 2 ^ 62)
    (hQ : ∀ H' n' ns' r, DkAt d l H H' m n' ns' → ns'.length ≤ 63 → 0 ≤ r → r < k → D.rt (.int r) H') : tDraw c K D [some (.ref d), some (.int k), y1, y2] H := by
  refine ⟨_, rfl, _, _, rfl, dg_draws hd, _, _, rfl, rfl, _, rfl, _, _, rfl, dp_draws hd (n + 1), ?_⟩
  have hd1 : upd H d (deckO l m (n + 1)) d = some (deckO l m (n + 1)) := upd_same
  have hl1 : upd H d (deckO l m (n + 1)) l = some (.lst (ns.map V.int)) := by rw [upd_ne hdl.symm]; exact hl
  have k1 : ∀ a o, H a = some o → a ≠ d → a ≠ l → upd H d (deckO l m (n + 1)) a = some o := fun a o q z _ => by rw [upd_ne z]; exact q
  have s1 : ∀ a, H a ≠ none → upd H d (deckO l m (n + 1)) a ≠ none := fun a q => upd_keep q
  have t1 : ∀ a ps, upd H d (deckO l m (n + 1)) a = some (.tbl ps) → H a = some (.tbl ps) := ot_upd (by intro _ z; cases z)
  generalize upd H d (deckO l m (n + 1)) = H1 at hd1 hl1 k1 s1 t1 ⊢
  refine ⟨_, rfl, _, _, rfl, dg_mixed hd1, _, rfl, _, _, rfl, dg_draws hd1, _, _, rfl, rfl, .inl hc, _, _, rfl, rfl, ?_⟩
  generalize m + c * (n + 1) = z
  refine ⟨_, rfl, _, _, rfl, dg_left hd1, Nat.zero_le _, fun p hp => ?_⟩
  have npd : d ≠ p := ne_of_none hd1 hp
  have npl : l ≠ p := ne_of_none hl1 hp
  have hd2 : upd H1 p (.lst []) d = some (deckO l m (n + 1)) := by rw [upd_ne npd]; exact hd1
  have hl2 : upd H1 p (.lst []) l = some (.lst (ns.map V.int)) := by rw [upd_ne npl]; exact hl1
  have k2 : ∀ a o, H a = some o → a ≠ d → a ≠ l → upd H1 p (.lst []) a = some o := fun a o q z z2 => by
    have w := k1 a o q z z2
    rw [upd_ne (ne_of_none w hp)]
    exact w
  have s2 : ∀ a, H a ≠ none → upd H1 p (.lst []) a ≠ none := fun a q => upd_keep (s1 a q)
  have hp2 : upd H1 p (.lst []) p = some (.lst []) := upd_same
  have t2 : ∀ a ps, upd H1 p (.lst []) a = some (.tbl ps) → H a = some (.tbl ps) := fun a ps e => t1 a ps (ot_upd (by intro _ z; cases z) a ps e)
  generalize upd H1 p (.lst []) = H2 at hd2 hl2 k2 s2 hp2 t2 ⊢
  refine ⟨.list (ns.map PyData.int), .list [], .lst (SqL.of hl2) (dp_ints ns), .lst (SqL.of hp2) .nil, ints_shaped ns, by decide +kernel, _, rfl, ?_⟩
  rw [ints_empty]
  cases hns : ns.isEmpty with
  | true => exact draw4 hd2 hk fun r h1 h2 => hQ H2 (n + 1) ns r ⟨hd2, hl2, k2, s2, t2⟩ hn h1 h2
  | false =>
    have hne : ns ≠ [] := by
      intro z
      rw [z] at hns
      cases hns
    obtain ⟨cs, cell, rfl⟩ : ∃ cs cell, ns = cs ++ [cell] := ⟨ns.dropLast, ns.getLast hne, (List.dropLast_concat_getLast hne).symm⟩
    have hcs : cs.length + 1 ≤ 63 := by simpa using hn
    have e0 : ((cs ++ [cell]).map V.int).dropLast = cs.map V.int := by simp
    refine ⟨_, rfl, _, _, rfl, dg_left hd2, .inl ⟨rfl, _, SqL.of hl2⟩, _, _, .int cell, rfl, rfl, hl2, by simp, ?_⟩
    rw [e0]
    have hd3 : upd H2 l (.lst (cs.map V.int)) d = some (deckO l m (n + 1)) := by rw [upd_ne hdl]; exact hd2
    have hl3 : upd H2 l (.lst (cs.map V.int)) l = some (.lst (cs.map V.int)) := upd_same
    have k3 : ∀ a o, H a = some o → a ≠ d → a ≠ l → upd H2 l (.lst (cs.map V.int)) a = some o := fun a o q z z2 => by rw [upd_ne z2]; exact k2 a o q z z2
    have s3 : ∀ a, H a ≠ none → upd H2 l (.lst (cs.map V.int)) a ≠ none := fun a q => upd_keep (s2 a q)
    have t3 : ∀ a ps, upd H2 l (.lst (cs.map V.int)) a = some (.tbl ps) → H a = some (.tbl ps) := fun a ps e => t2 a ps (ot_upd (by intro _ z; cases z) a ps e)
    generalize upd H2 l (.lst (cs.map V.int)) = H3 at hd3 hl3 k3 s3 t3 ⊢
    refine ⟨_, rfl, _, _, rfl, rfl, ⟨by decide, by decide, by decide⟩, _, _, rfl, rfl, _, rfl, ?_⟩
    refine ite2 (fun hbig => ?_) (fun hbig => ?_)
    · skip
      have hmax : 0 < (if k > 2 then k else 2) ∧ (if k > 2 then k else 2) < 2 ^ 62 := by
        have e62 : (2 : Int) ^ 62 = 4611686018427387904 := by decide
        rw [e62] at hk2 ⊢
        split <;> omega
      refine ⟨_, rfl, _, _, rfl, dg_left hd3, .inl ⟨rfl, _, SqL.of hl3⟩, _, rfl, _, rfl, _, _, rfl, _, _, rfl, rfl, ⟨hmax.1, ?_⟩, _, _, _, rfl, rfl, hl3, by rw [List.length_map]; exact Nat.lt_of_le_of_lt (by omega : cs.length ≤ 63) (by decide), ?_⟩
      · have h9 : (if k > 2 then k else 2).natAbs < 2 ^ 62 := by
          have e62 : (2 : Int) ^ 62 = 4611686018427387904 := by decide
          have f62 : (2 : Nat) ^ 62 = 4611686018427387904 := by decide
          rw [e62] at hmax
          rw [f62]
          omega
        exact Nat.lt_of_le_of_lt (PySem.W.mg_log (k := 61) h9) (by decide)
      · refine ⟨_, rfl, .inl ⟨_, rfl, _, rfl, _, _, rfl, rfl, hk, ?_⟩⟩
        refine hQ _ (n + 1) (cs ++ [cell / (if k > 2 then k else 2)]) _ ⟨?_, ?_, fun a o q z z2 => ?_, fun a q => upd_keep (s3 a q), fun a ps e => t3 a ps (ot_upd (by intro _ z; cases z) a ps e)⟩ (by simpa using hcs) (mod_lt' hk).1 (mod_lt' hk).2
        · rw [upd_ne hdl]; exact hd3
        · rw [upd_same]; simp
        · rw [upd_ne z2]; exact k3 a o q z z2
    · refine ⟨_, rfl, _, rfl, .inl ⟨_, rfl, _, _, rfl, rfl, (by show (0 : Int) < 2147483629; decide), _, _, rfl, rfl, ?_⟩⟩
      exact draw4 hd3 hk fun r h1 h2 => hQ H3 (n + 1) cs r ⟨hd3, hl3, k3, s3, t3⟩ (by omega) h1 h2
end
/-- what drawing keeps -/
def spDraw : DSp := fun W ds Q _ => ∃ d l k, W = some (d, l) ∧ ds = [.opq (.ref d), .int k] ∧ 0 < k ∧ k < 2 ^ 62 ∧ ∀ r, 0 ≤ r → r < k → Q (.int r)
theorem okDraw {P : Program} {w : World} {K : PySem.W.Frag} {mg : Str → Option Value} {base : Heap} {x qual : Str} {st : Stmt} {f : Addr} {fd : FuncData} {N ps : List Str} {c : Int} {T : List (Addr × Str)} (F : Fun K x qual st f fd) (S : FnScope N ps (defScope st)) (hN : N.length = 4) (hp : ps.length = 2) (hc : -(2 ^ 64) < c ∧ c < 2 ^ 64)
    (body : ∀ (cdv : Value) (A : Around) (outer : List Env) (s : Shared) (H : Hp) (E : XK), Room 0 (A.deeper (envOfC qual (defScope st) s.heap.objs.size f cdv)) → PSs (cxD P w K mg base N qual st f cdv A outer s H E) (defBody st) (tDraw c K)) : FnOk P w K mg base (L2.CX P w) 1 f fd ps (liftSp ⟨K, mg⟩ T spDraw) := by
  refine F.okX S (fun vs H Q E ⟨W, F, ds, Qd, Rd, h1, h2, h3, ⟨d, l, k, _, h4, _⟩, _⟩ => ?_) fun cdv A outer s H vs Q E hr ⟨W, F, ds, Qd, Rd, h1, h2, h3, ⟨d, l, k, hW, hds, hk, hk2, hq⟩, h5, h6⟩ => ?_
  · rw [h3.length, h4, hp]
    rfl
  · refine ⟨_, body cdv A outer s H E hr, ?_⟩
    subst hds hW
    obtain ⟨v1, v2, rfl, r1, r2⟩ : ∃ v1 v2, vs = [v1, v2] ∧ Rep ⟨K, mg⟩ F v1 (.opq (.ref d)) ∧ Rep ⟨K, mg⟩ F v2 (.int k) := by
      cases h3 with
      | cons a t =>
        cases t with
        | cons b t =>
          cases t
          exact ⟨_, _, rfl, a, b⟩
    cases r1
    cases r2
    have dk := h2.dk _ rfl
    obtain ⟨ns, m, n, e1, e2, e3, e4, e5⟩ := dk.st
    have es : L2.start N [V.ref d, V.int k] = [some (.ref d), some (.int k), none, none] := by
      unfold L2.start
      rw [hN]
      rfl
    rw [es]
    exact draw_law hc e1 e2 dk.ne e3 hk hk2 fun H' n' ns' r z hl hr0 hr1 => by
      obtain ⟨g, dk'⟩ := z.grow h2 h1 hl e4 e5
      exact h5 _ (hq r hr0 hr1) F H' _ g dk' (.int r)
end ND

/-! ND10: making the deck; the law's own def -/
namespace ND
open PySem PySem.Spec L2
open PyProof.Rows (envOfC)

abbrev sL (K : PySem.W.Frag) : TE := tSl (rSlL K) (tVar 0) tNoPart (tPart (tC (V.int 63)))
abbrev tDeck (c b : Int) (K : PySem.W.Frag) : TS :=
  tSeq (tAsg (tC (V.int c)) (gName 1))
  (tSeq (tFor (iList K (sL K)) (gName 2) (tAsg (rP (iM (tCons (aP (aP (mP (tVar 1) (tC (V.int 48271))) (rP (iM (tCons (tVar 2) tNil)) (tC (V.int 2147483629)))) (tC (V.int b))) tNil)) (tC (V.int 2147483587))) (gName 1)))
  (tRet (tDisp [(tC (V.str "left"), tRevL K (tCB (fun xs H Q => ∃ p ys, xs = [V.ref p] ∧ (SqL K H p ys ∨ SqT K H p ys) ∧ ∀ l, H l = none → Q (V.ref l) (upd H l (.lst ys))) (tCons (sL K) tNil))), (tC (V.str "mixed"), tVar 1), (tC (V.str "draws"), tC (V.int 0))])))
theorem cut_ints (ns : List Int) (lo hi : Option Int) (h : ns.length ≤ 63) : ∃ ms : List Int, cutV (ns.map V.int) lo hi = ms.map V.int ∧ ms.length ≤ 63 := by
  refine ⟨(ns.drop (HT.sIx (ns.map V.int).length 0 lo)).take (HT.sIx (ns.map V.int).length (ns.map V.int).length hi - HT.sIx (ns.map V.int).length 0 lo), ?_, ?_⟩
  · unfold cutV
    rw [List.map_take, List.map_drop]
  · rw [List.length_take, List.length_drop]
    omega
theorem merge_deck (l : Addr) (m n : Int) : mergeK [] [((Sum.inr "left" : Key), V.ref l), (Sum.inr "mixed", V.int m), (Sum.inr "draws", V.int n)] = [((Sum.inr "left" : Key), V.ref l), (Sum.inr "mixed", V.int m), (Sum.inr "draws", V.int n)] := by
  have a1 := kl_m
  have a2 := kl_d
  have a3 := km_d
  simp [mergeK, putK, a1, a2, a3]
section
variable {K : PySem.W.Frag} {H : Hp} {a : Addr} {ns : List Int} {c b : Int} {D : Ends}
theorem deck_law (hc : 0 ≤ c ∧ c < 2147483587) (hS : SqL K H a (ns.map V.int)) (hn : ns.length ≤ 63)
    (hQ : ∀ (H' : Hp) (d l : Addr) (m : Int) (ns' : List Int), Same H H' → (∀ a ps, H' a = some (.tbl ps) → H a = some (.tbl ps)) → H d = none → H l = none → d ≠ l → H' d = some (deckO l m 0) → H' l = some (.lst (ns'.map V.int)) → ns'.length ≤ 63 → 0 ≤ m → m < 2147483587 → D.rt (.ref d) H') :
    tDeck c b K D [some (.ref a), none, none] H := by
  obtain ⟨ms, em, hm⟩ := cut_ints ns none (some 63) hn
  refine ⟨_, rfl, _, rfl, a, _, rfl, hS, fun p hp => ⟨p, rfl, ⟨_, SqL.of upd_same⟩, ?_⟩⟩
  have hSp : Same H (upd H p (.lst (ms.map V.int))) := same_new hp
  rw [em]
  refine for_list (K := K) (a := p) (xs := ms.map V.int) (fun i σ H' => H' = upd H p (.lst (ms.map V.int)) ∧ ∃ m v, σ = [some (.ref a), some (.int m), v] ∧ 0 ≤ m ∧ m < 2147483587) ⟨rfl, c, none, rfl, hc⟩ (fun i σ H' _ ⟨e, _⟩ => by rw [e]; exact SqL.of upd_same) ?_ ?_
  · rintro i y σ H' hi ⟨rfl, m, v, rfl, h1, h2⟩
    obtain ⟨z, rfl⟩ : ∃ z, y = V.int z := by
      obtain ⟨z, _, e⟩ := List.mem_map.mp (List.mem_of_getElem? hi)
      exact ⟨z, e.symm⟩
    exact ⟨_, rfl, _, _, rfl, rfl, .inr (small64 (by decide) (by decide)), _, rfl, .inl ⟨_, rfl, _, _, rfl, rfl, (by show (0 : Int) < 2147483629; decide), _, _, rfl, rfl, _, _, rfl, rfl, .inl ⟨_, rfl, _, _, rfl, rfl, (by show (0 : Int) < 2147483587; decide), rfl, _, _, rfl, mod_lt' (by decide)⟩⟩⟩
  · rintro σ H' ⟨rfl, m, v, rfl, h1, h2⟩
    have tSp : ∀ a ps, upd H p (.lst (ms.map V.int)) a = some (.tbl ps) → H a = some (.tbl ps) := ot_upd (by intro _ z; cases z)
    generalize upd H p (.lst (ms.map V.int)) = H1 at hSp tSp
    intro d hd
    have hS1 : Same H1 (upd H1 d (.dK [])) := same_new hd
    have hd2 : upd H1 d (.dK []) d = some (.dK []) := upd_same
    have d0 := hSp.free hd
    have hS' := hSp.trans hS1
    have tS' : ∀ a ps, upd H1 d (.dK []) a = some (.tbl ps) → H a = some (.tbl ps) := fun a ps e => tSp a ps (ot_upd (by intro _ z; cases z) a ps e)
    generalize upd H1 d (.dK []) = H2 at hd2 hS' tS'
    refine ⟨_, rfl, _, rfl, a, _, rfl, hS'.seq hS, fun q hq => ?_⟩
    have hd3 : upd H2 q (.lst (cutV (ns.map V.int) none (some 63))) d = some (.dK []) := by rw [upd_ne (ne_of_none hd2 hq)]; exact hd2
    have hS3 := hS'.trans (same_new (o := .lst (cutV (ns.map V.int) none (some 63))) hq)
    have hq3 : upd H2 q (.lst (cutV (ns.map V.int) none (some 63))) q = some (.lst (cutV (ns.map V.int) none (some 63))) := upd_same
    have tS3 : ∀ a ps, upd H2 q (.lst (cutV (ns.map V.int) none (some 63))) a = some (.tbl ps) → H a = some (.tbl ps) := fun a ps e => tS' a ps (ot_upd (by intro _ z; cases z) a ps e)
    generalize upd H2 q (.lst (cutV (ns.map V.int) none (some 63))) = H3 at hd3 hS3 hq3 tS3
    refine ⟨q, _, rfl, .inl (SqL.of hq3), fun r hr => ?_⟩
    rw [em] at hq3 ⊢
    have hd4 : upd H3 r (.lst (ms.map V.int)) d = some (.dK []) := by rw [upd_ne (ne_of_none hd3 hr)]; exact hd3
    have hS4 := hS3.trans (same_new (o := .lst (ms.map V.int)) hr)
    have hr4 : upd H3 r (.lst (ms.map V.int)) r = some (.lst (ms.map V.int)) := upd_same
    have tS4 : ∀ a ps, upd H3 r (.lst (ms.map V.int)) a = some (.tbl ps) → H a = some (.tbl ps) := fun a ps e => tS3 a ps (ot_upd (by intro _ z; cases z) a ps e)
    generalize upd H3 r (.lst (ms.map V.int)) = H4 at hd4 hS4 hr4 tS4
    refine ⟨r, _, rfl, SqL.of hr4, fun l hl => ?_⟩
    have ndl : d ≠ l := ne_of_none hd4 hl
    have l0 := hS4.free hl
    have er : (ms.map V.int).reverse = (ms.reverse).map V.int := by rw [List.map_reverse]
    rw [er]
    refine ⟨_, rfl, by rw [upd_ne ndl]; exact hd4, [(.inr "left", .ref l), (.inr "mixed", .int m), (.inr "draws", .int 0)], rfl, (by show 3 ≤ 15; decide), ?_⟩
    rw [merge_deck]
    refine hQ _ d l m ms.reverse (fun b o e => ?_) (fun a ps e => tS4 a ps (ot_upd (by intro _ z; cases z) a ps (ot_upd (by intro _ z; cases z) a ps e))) d0 l0 ndl upd_same (by rw [upd_ne ndl.symm]; exact upd_same) (by simpa using hm) h1 h2
    have nb : b ≠ d := fun z => by rw [z, d0] at e; cases e
    rw [upd_ne nb]
    have nb2 : b ≠ l := fun z => by rw [z, l0] at e; cases e
    rw [upd_ne nb2]
    exact hS4 _ _ e
end
/-- a new deck -/
def spDeck (K : PySem.W.Frag) : Sp := fun vs H Q _ => ∃ (a : Addr) (ns : List Int), vs = [.ref a] ∧ SqL K H a (ns.map V.int) ∧ ns.length ≤ 63 ∧ ∀ H' d l, Same H H' → (∀ a ps, H' a = some (.tbl ps) → H a = some (.tbl ps)) → H d = none → H l = none → DeckAt (d, l) (fun _ => none) H' → Q (.ref d) H'
theorem okDeck {P : Program} {w : World} {K : PySem.W.Frag} {mg : Str → Option Value} {base : Heap} {x qual : Str} {st : Stmt} {f : Addr} {fd : FuncData} {N ps : List Str} {c b : Int} (F : Fun K x qual st f fd) (S : FnScope N ps (defScope st)) (hN : N.length = 3) (hp : ps.length = 1) (hc : 0 ≤ c ∧ c < 2147483587)
    (body : ∀ (cdv : Value) (A : Around) (outer : List Env) (s : Shared) (H : Hp) (E : XK), Room 0 (A.deeper (envOfC qual (defScope st) s.heap.objs.size f cdv)) → PSs (cxD P w K mg base N qual st f cdv A outer s H E) (defBody st) (tDeck c b K)) : FnOk P w K mg base (L2.CX P w) 1 f fd ps (spDeck K) := by
  refine F.okX S (fun vs H Q E ⟨a, ns, h1, _⟩ => ?_) fun cdv A outer s H vs Q E hr ⟨a, ns, h1, h2, h3, h4⟩ => ⟨_, body cdv A outer s H E hr, ?_⟩
  · rw [h1, hp]
    rfl
  · subst h1
    have es : L2.start N [V.ref a] = [some (.ref a), none, none] := by
      unfold L2.start
      rw [hN]
      rfl
    rw [es]
    exact deck_law hc h2 h3 fun H' d l m ns' s1 t1 d0 l0 ndl e1 e2 hl m0 m1 => h4 H' d l s1 t1 d0 l0 ⟨rfl, rfl, ndl, ns', m, 0, e1, e2, hl, m0, m1⟩

/-! ### the law: its first statement makes the deck -/
def hp0 : Hp := fun _ => none
theorem pss_deck {T : List (Addr × Str)} {X : Cx} {rest : List Stmt} {g : WD → GS} (h : ∀ p H0, SDs ⟨⟨some p, T⟩, hp0, H0⟩ X rest (g (some p))) : PSs X rest fun Dn s H => ∃ p H0, LS ⟨⟨some p, T⟩, hp0, H0⟩ X.kn (g (some p)) Dn s H :=
  ⟨fun pins s σ H Dn I ⟨p, H0, q⟩ => (h p H0).run.run pins s σ H Dn I q⟩
/-- what the law promises -/
def spLaw (K : PySem.W.Frag) (T : List (Addr × Str)) : Sp := fun vs H Q _ => ∃ (a : Addr) (script : List Int), vs = [.ref a] ∧ SqL K H a (script.map V.int) ∧ script.length ≤ 63 ∧ (∀ x, x ∈ T → H x.1 = some (.tbl #[])) ∧ (∀ a ps, H a = some (.tbl ps) → ∃ x, x ∈ T ∧ a = x.1) ∧ ∀ G, Q (.bl true) G
theorem okLaw {P : Program} {w : World} {K : PySem.W.Frag} {mg : Str → Option Value} {base : Heap} {x qual : Str} {st s0 : Stmt} {rest : List Stmt} {f : Addr} {fd : FuncData} {N : List Str} {y : Str} {k : Nat} {g : WD → GS} {T : List (Addr × Str)} (F : Fun K x qual st f fd) (S : FnScope N [y] (defScope st)) (hN : 1 < N.length)
    (hst : defBody st = s0 :: rest)
    (body : ∀ (cdv : Value) (A : Around) (outer : List Env) (s : Shared) (H : Hp) (E : XK), (A.deeper (envOfC qual (defScope st) s.heap.objs.size f cdv)).guards = some [] → Room k (A.deeper (envOfC qual (defScope st) s.heap.objs.size f cdv)) →
      PassesOwn (model P w) (cxD P w K mg base N qual st f cdv A outer s H E).A (cxD P w K mg base N qual st f cdv A outer s H E).env (cxD P w K mg base N qual st f cdv A outer s H E).xe →
      Passes (L2.CX P w) (cxD P w K mg base N qual st f cdv A outer s H E) E →
      PS (cxD P w K mg base N qual st f cdv A outer s H E) s0 (tAsg (tCall (spDeck K) [] E (tCons (tVar 0) tNil)) (gName 1)) ∧
      ∀ p H0, SDs ⟨⟨some p, T⟩, hp0, H0⟩ (cxD P w K mg base N qual st f cdv A outer s H E) rest (g (some p)))
    (law : ∀ (d l : Addr) (v : V), g (some (d, l)) (endsD fun r => r = .bl true) (.d (.opq v) :: .d (.opq (.ref d)) :: List.replicate (N.length - 2) .no)) : FnG P w K mg base (k + 1) f fd [y] (spLaw K T) := by
  obtain ⟨oc, od, kV, doc, pm, an, cdv, ct, osl, rfl, lk, hcd⟩ := F.ex
  refine fn_ofG lk hcd S (fun vs H Q E ⟨a, ns, h1, _⟩ => by rw [h1]; rfl) fun A outer s H vs Q E hG hr ⟨a, ns, h1, h2, h3, hT, hO, h4⟩ => ?_
  subst h1
  obtain ⟨b1, b2⟩ := body cdv A outer s H E hG hr (passes_of rfl) (passes_call (takes_of rfl rfl rfl rfl) fun _ _ _ _ z => z)
  have b3 := pss_cons b1 (pss_deck b2)
  rw [← hst] at b3
  refine ⟨_, b3, ?_⟩
  have es : L2.start N [V.ref a] = some (.ref a) :: none :: List.replicate (N.length - 2) none := by
    unfold L2.start
    obtain ⟨m, hm⟩ : ∃ m, N.length = m + 2 := ⟨N.length - 2, by omega⟩
    rw [hm]
    rfl
  rw [es]
  refine ⟨_, rfl, a, ns, rfl, h2, h3, fun H' d l s1 t1 d0 l0 dk => ?_⟩
  refine ⟨(d, l), H', .d (.opq (.ref a)) :: .d (.opq (.ref d)) :: List.replicate (N.length - 2) .no, hp0, endsD fun r => r = .bl true, ?_, law d l (.ref a), ?_⟩
  · have dki : DeckIn ⟨some (d, l), T⟩ hp0 H' := ⟨fun p hp => by cases hp; exact dk, fun _ _ => rfl, fun x hx => LamX.TabS.nil (s1 _ _ (hT x hx)), fun _ _ z => (nomatch z), fun a ps e => hO a ps (t1 a ps e)⟩
    refine ⟨Grow.refl fun _ _ z => (nomatch z), dki, dki, by simp, fun _ => none, ⟨fun i j a z => (nomatch z), fun i a z => (nomatch z)⟩, fun i z v e1 e2 => ?_⟩
    match i with
    | 0 =>
      simp only [List.getElem?_cons_zero, Option.some.injEq] at e1
      have e2' : some (some (V.ref a)) = some v := e2
      cases e2'
      subst e1
      exact .opq _
    | 1 =>
      have e1' : some (SV.d (.opq (.ref d))) = some z := e1
      have e2' : some (some (V.ref d)) = some v := e2
      cases e1'
      cases e2'
      exact .opq _
    | i + 2 =>
      have e1' : (List.replicate (N.length - 2) SV.no)[i]? = some z := e1
      have e2' : (List.replicate (N.length - 2) (none : Option V))[i]? = some v := e2
      have h1 := List.eq_of_mem_replicate (List.mem_of_getElem? e1')
      have h2 := List.eq_of_mem_replicate (List.mem_of_getElem? e2')
      subst h1 h2
      exact True.intro
  · refine ⟨fun _ _ _ _ _ _ z => ?_, fun r v F' H2 _ _ rv e => ?_, fun _ _ _ _ _ _ z => z.elim, fun _ _ _ _ _ _ z => z.elim⟩
    · cases (show D.non = .bl true from z)
    · subst e
      cases rv
      exact h4 _
end ND

/-! ND11: the end of a law, from FnG -/
namespace ND
open PySem PySem.Spec L2 PyProof.Rows
open PyProof.Rows (envOfC)

/-- the script alone is tracked, if it is not of the written part -/
def scH (K : PySem.W.Frag) (a : Addr) (o : Obj) (ns : List Int) : Hp := fun b => if b = a ∧ K.lookup a = none then some (.frz o (.lst (ns.map V.int))) else none
theorem scH_some {K : PySem.W.Frag} {a b : Addr} {o : Obj} {ns : List Int} {u : HO} (h : scH K a o ns b = some u) : b = a ∧ K.lookup a = none ∧ u = .frz o (.lst (ns.map V.int)) := by
  unfold scH at h
  split at h
  · rename_i c
    cases h
    exact ⟨c.1, c.2, rfl⟩
  · cases h
theorem scH_none {K : PySem.W.Frag} {a b : Addr} {o : Obj} {ns : List Int} (h : b = a → K.lookup a ≠ none) : scH K a o ns b = none := by
  unfold scH
  rw [if_neg fun c => h c.1 c.2]
theorem run_law {P : Program} {w : World} {K : PySem.W.Frag} {mg mb : Str → Option Value} {k : Nat} {fa a : Addr} {fd : FuncData} {x : Str} {sp : Sp} {t : Shared} {vs : List Value} {ns : List Int}
    (KX : K.In t.heap) (nsM : t.heap.Ns mainGlobals mg) (nsB : t.heap.Ns builtinsNs mb) (bb : ∀ y : Str, y ≠ "__name__" → mb y = bootBuiltins y) (lim : t.heap.NoLimit) (gens : t.gens = #[])
    (ha : t.heap.get? a = some { cls := .type "list", data := .seq vs.toArray }) (hi : IntsAre vs ns) (hl : ns.length ≤ sizeLine) (room : Room k callerA)
    (G : ∀ base : Heap, K.In base → base.Ns mainGlobals mg → FnG P w K mg base k fa fd [x] sp) (bind : ∀ (s : Shared) (u : Value), BindsTo s fd ⟨[u], []⟩ [(x, u)])
    (ask : ∀ H : Hp, SqL K H a (ns.map V.int) → (∀ b ps, H b ≠ some (.tbl ps)) → sp [.ref a] H (fun v _ => v = .bl true) fun _ _ _ => False) :
    codeAny (model P w) callerA (.call (.ref fa) ⟨[.ref a], []⟩) (fun r s' => r = .ok (.ret (.bool true)) ∧ OldK t.heap s'.heap ∧ s'.os = t.os ∧ AllBare s'.gens) t := by
  have vals := vals_ints hi
  have sameLen := hi.length
  generalize hH : scH K a { cls := .type "list", data := .seq vs.toArray } ns = H
  have inH : ∀ {b : Addr} {u : HO}, H b = some u → b = a ∧ K.lookup a = none ∧ u = .frz { cls := .type "list", data := .seq vs.toArray } (.lst (ns.map V.int)) := fun e => by
    rw [← hH] at e
    exact scH_some e
  have outH : ∀ {b : Addr}, (b = a → K.lookup a ≠ none) → H b = none := fun e => by
    rw [← hH]
    exact scH_none e
  have seqA : SqL K H a (ns.map V.int) := by
    cases ek : K.lookup a with
    | none =>
      refine .inl (.inr ⟨{ cls := .type "list", data := .seq vs.toArray }, ?_⟩)
      rw [← hH]
      unfold scH
      rw [if_pos ⟨rfl, ek⟩]
    | some o =>
      have same := KX a o ek
      rw [ha] at same
      cases same
      exact .inr ⟨_, vs.toArray, _, ek, rfl, rfl, rfl, by rw [List.size_toArray, sameLen]; exact hl, by simpa using vals⟩
  have okH : HOk P w H t.heap := fun b u e => by
    obtain ⟨rfl, _, rfl⟩ := inH e
    exact ⟨ha, by rw [List.length_map]; exact hl, vs, _, vals, ha⟩
  have stays : ∀ {b : Addr} {o : Obj}, t.heap.get? b = some o → H b = none → (hidT t.heap H).get? b = some o := fun e n => hidT_get e n
  have nsStays : ∀ {b : Addr} {m : Str → Option Value}, t.heap.Ns b m → (hidT t.heap H).Ns b m := fun {b m} ⟨o, es, ep, e, dt, r⟩ => by
    refine ⟨o, es, ep, stays e ?_, dt, r⟩
    cases q : H b with
    | none => rfl
    | some u =>
      obtain ⟨rfl, _, _⟩ := inH q
      rw [ha] at e
      cases e
      exact absurd (show Data.seq vs.toArray _ = Data.dict es ep from dt) (by intro z; cases z)
  have kIn : K.In (hidT t.heap H) := fun b o e => stays (KX b o e) (outH fun z => by
    subst z
    rw [e]
    exact Option.some_ne_none _)
  obtain ⟨mc, l1, l2⟩ := lim
  have env : Env0 P w K mg (hidT t.heap H) callerA [] t H := ⟨rfl, ⟨kIn, nsStays nsM, ⟨mb, nsStays nsB, bb⟩, mc, nsStays l1, l2⟩, fun b o e => of_hidT e, Nat.le_of_eq (hidT_size _ _), trivial, fun b hb => (nomatch hb), okH, .of_eq gens⟩
  have run := (G _ kIn (nsStays nsM)).run callerA [] t H ⟨[.ref a], []⟩ [.ref a] [.ref a] _ _ rfl room env (bind t (.ref a)) (.cons rfl .nil) (ask H seqA fun b ps e => by obtain ⟨_, _, z⟩ := inH e; cases z)
  refine codeAny_mono run fun r s' h => ?_
  rcases r with e | fl
  · obtain ⟨_, _, _, _, _, _, _, _, _, _, _, _, no⟩ := (show L2.CX P w [] H t (fun _ _ _ => False) e s' from h)
    exact no.elim
  · cases fl with
    | ret u =>
      obtain ⟨v, H', os, bare, un, hok', r', q⟩ := h
      have q' : v = .bl true := q
      subst q'
      obtain rfl : u = Value.bool true := r'
      refine ⟨rfl, OldK.of_keep fun b o e => ?_, os, bare⟩
      cases q : H b with
      | none => exact un.keep b o e q (fun z => (nomatch z)) (by simp)
      | some u =>
        obtain ⟨rfl, _, rfl⟩ := inH q
        obtain ⟨g1, _⟩ := hok' b _ (un.frzs b _ _ q)
        rw [ha] at e
        cases e
        exact g1
    | next => exact False.elim h
    | brk => exact False.elim h
    | cont => exact False.elim h
theorem walkG {l : PySem.W.OpenLaw} {k : Nat} {q : Program} {loose : List Str} {XP : (Str → Option Value) → Heap → Prop} {YP : World → Heap → Prop} {d : DefRec} {K : Params → PySem.W.Frag} {x : Str}
    (hn : l.most = some 63) (hdf : d.params.defaults = []) (hr : Room k callerA) (hY : ∀ (w : World) (h : Heap), YP w h → (K w.params).In h)
    (G : ∀ (w : World) (mg : Str → Option Value) (fa : Addr) (h : Heap), (K w.params).In h → h.Ns mainGlobals mg → mg d.name = some (.ref fa) →
      ∃ fd : FuncData, (∀ (s : Shared) (u : Value), BindsTo s fd ⟨[u], []⟩ [(x, u)]) ∧ ∀ base : Heap, (K w.params).In base → base.Ns mainGlobals mg → FnG l.prog w (K w.params) mg base k fa fd [x] (spLaw (K w.params) [])) :
    PySem.W.WalkO q loose XP YP l.row.toRowW d [] (fun f vs => PySem.call f vs) := by
  refine Att.attach_callB hn hdf fun w s₀ t mg mb fa o pm cd doc a vs ns Gd Y ho hd hcd hmg hobj hints hlen hbits hg => ?_
  have inK := hY w _ Y
  obtain ⟨fd, bind, run⟩ := G w mg fa _ inK Gd.T.g hmg
  exact run_law inK Gd.T.g Gd.T.b Gd.T.builtins Gd.T.nolimit hg hobj hints (Nat.le_trans hlen (by decide)) hr run bind fun H hS nt => ⟨a, ns, rfl, hS, hlen, fun _ z => (nomatch z), fun b ps e => absurd e (nt b ps), fun _ => rfl⟩
theorem hu65_of {A : Around} {k : Nat} (hr : Room k A) : A.units + 65 < cLine := by have := hr.un; omega
end ND
namespace ND
open PySem PySem.Spec L2
/-! ### for the plain laws -/
@[simp] theorem addD_i (i j : Int) (Q : D → Prop) : addD (.int i) (.int j) Q = Q (.int (i + j)) := rfl
@[simp] theorem addD_s (i j : Str) (Q : D → Prop) : addD (.str i) (.str j) Q = (i.length + j.length ≤ sizeLine ∧ Q (.str (i ++ j))) := rfl
@[simp] theorem addD_t (i j : List D) (Q : D → Prop) : addD (.tup i) (.tup j) Q = (i.length + j.length ≤ sizeLine ∧ Q (.tup (i ++ j))) := rfl
@[simp] theorem addD_l (i j : List D) (Q : D → Prop) : addD (.lst i) (.lst j) Q = (i.length + j.length ≤ sizeLine ∧ Q (.lst (i ++ j))) := rfl
@[simp] theorem subD_i (i j : Int) (Q : D → Prop) : subD (.int i) (.int j) Q = Q (.int (i - j)) := rfl
@[simp] theorem mulD_i (i j : Int) (Q : D → Prop) : mulD (.int i) (.int j) Q = (ND.MulOk i j ∧ Q (.int (i * j))) := rfl
@[simp] theorem fdivD_i (i j : Int) (Q : D → Prop) : fdivD (.int i) (.int j) Q = (0 < j ∧ j.natAbs.log2 < 9000 ∧ Q (.int (i / j))) := rfl
@[simp] theorem modD_i (i j : Int) (Q : D → Prop) : modD (.int i) (.int j) Q = (0 < j ∧ Q (.int (i % j))) := rfl
@[simp] theorem powD_i (i j : Int) (Q : D → Prop) : powD (.int i) (.int j) Q = (0 ≤ j ∧ j ≤ 1000000 ∧ i.natAbs < 2 ^ 64 ∧ Q (.int (i ^ j.toNat))) := rfl
@[simp] theorem negD_i (i : Int) (Q : D → Prop) : negD (.int i) Q = Q (.int (-i)) := rfl
@[simp] theorem ltD_i (i j : Int) (Q : D → Prop) : ltD (.int i) (.int j) Q = Q (.bl (decide (i < j))) := rfl
@[simp] theorem leD_i (i j : Int) (Q : D → Prop) : leD (.int i) (.int j) Q = Q (.bl (decide (i ≤ j))) := rfl
@[simp] theorem gtD_i (i j : Int) (Q : D → Prop) : gtD (.int i) (.int j) Q = Q (.bl (decide (j < i))) := rfl
@[simp] theorem geD_i (i j : Int) (Q : D → Prop) : geD (.int i) (.int j) Q = Q (.bl (decide (j ≤ i))) := rfl
@[simp] theorem truthD_b (i : Bool) (Q : Bool → Prop) : truthD (.bl i) Q = Q i := rfl
@[simp] theorem truthD_n (Q : Bool → Prop) : truthD .non Q = Q false := rfl
@[simp] theorem truthD_i (i : Int) (Q : Bool → Prop) : truthD (.int i) Q = Q (i != 0) := rfl
@[simp] theorem truthD_t (i : List D) (Q : Bool → Prop) : truthD (.tup i) Q = Q (!i.isEmpty) := rfl
@[simp] theorem truthD_l (i : List D) (Q : Bool → Prop) : truthD (.lst i) Q = Q (!i.isEmpty) := rfl
@[simp] theorem lenD_l (i : List D) (Q : D → Prop) : lenD [.lst i] Q = Q (.int i.length) := rfl
@[simp] theorem lenD_t (i : List D) (Q : D → Prop) : lenD [.tup i] Q = Q (.int i.length) := rfl
@[simp] theorem lenD_s (x : Str) (Q : D → Prop) : lenD [.str x] Q = (x.length ≤ sizeLine ∧ Q (.int x.length)) := rfl
@[simp] theorem intD_i (i : Int) (Q : D → Prop) : intD [.int i] Q = Q (.int i) := rfl
@[simp] theorem intD_b (i : Bool) (Q : D → Prop) : intD [.bl i] Q = Q (.int (if i = true then 1 else 0)) := rfl
@[simp] theorem intD_s (x : Str) (Q : D → Prop) : intD [.str x] Q = (∃ n, intText? x = some n ∧ x.length ≤ 640 ∧ Q (.int n)) := rfl
@[simp] theorem absD_i (i : Int) (Q : D → Prop) : absD [.int i] Q = Q (.int (if i < 0 then -i else i)) := rfl
@[simp] theorem max2D_i (i j : Int) (Q : D → Prop) : max2D [.int i, .int j] Q = Q (.int (if j > i then j else i)) := rfl
@[simp] theorem min2D_i (i j : Int) (Q : D → Prop) : min2D [.int i, .int j] Q = Q (.int (if j < i then j else i)) := rfl
@[simp] theorem gcdD_i (i j : Int) (Q : D → Prop) : gcdD [.int i, .int j] Q = Q (.int ((Nat.gcd i.natAbs j.natAbs : Nat) : Int)) := rfl
@[simp] theorem isqrtD_i (i : Int) (Q : D → Prop) : isqrtD [.int i] Q = (0 ≤ i ∧ i.toNat.log2 < 13000 ∧ Q (.int ((Float64.isqrt i.toNat : Nat) : Int))) := rfl
@[simp] theorem isiD_t (x : D) (T : String) (Q : D → Prop) : isiD [x, .opq (.ty T)] Q = (knownT T = true ∧ (tyD x).isSome = true ∧ Q (.bl (isiB T x))) := rfl
@[simp] theorem reprD_x (x : D) (Q : D → Prop) : reprD [x] Q = (pl 64 x = true ∧ (toPy x).showable = true ∧ (toPy x).shown.length ≤ sizeLine ∧ Q (.str (toPy x).shown)) := rfl
@[simp] theorem repS_i (x : Str) (k : Int) (Q : D → Prop) : repS (.str x) (.int k) Q = (1 ≤ k ∧ x.length * k.toNat ≤ sizeLine ∧ x.length ≠ 0 ∧ Q (.str (Txt.mul x k))) := rfl
@[simp] theorem eqD_s (a b : Str) (Q : D → Prop) : eqD (.str a) (.str b) Q = Q (.bl (decide (a = b))) := rfl
@[simp] theorem neD_s (a b : Str) (Q : D → Prop) : neD (.str a) (.str b) Q = Q (.bl (!decide (a = b))) := rfl
@[simp] theorem eqD_l (a : List D) (y : D) (Q : D → Prop) : eqD (.lst a) y Q = (pl 64 (.lst a) = true ∧ pl 64 y = true ∧ Q (.bl (eqb (.lst a) y))) := rfl
@[simp] theorem neD_l (a : List D) (y : D) (Q : D → Prop) : neD (.lst a) y Q = (pl 64 (.lst a) = true ∧ pl 64 y = true ∧ Q (.bl (!eqb (.lst a) y))) := rfl
@[simp] theorem eqD_t (a : List D) (y : D) (Q : D → Prop) : eqD (.tup a) y Q = (pl 64 (.tup a) = true ∧ pl 64 y = true ∧ Q (.bl (eqb (.tup a) y))) := rfl
@[simp] theorem neD_t (a : List D) (y : D) (Q : D → Prop) : neD (.tup a) y Q = (pl 64 (.tup a) = true ∧ pl 64 y = true ∧ Q (.bl (!eqb (.tup a) y))) := rfl
@[simp] theorem knInt : knownT "int" = true := by decide
@[simp] theorem knBool : knownT "bool" = true := by decide
@[simp] theorem knTup : knownT "tuple" = true := by decide
@[simp] theorem knList : knownT "list" = true := by decide
@[simp] theorem knStr : knownT "str" = true := by decide
@[simp] theorem knDict : knownT "dict" = true := by decide
@[simp] theorem eqb_int (i j : Int) : eqb (.int i) (.int j) = decide (i = j) := by simp [eqb, toPy, PyData.eqv, BEq.beq]
@[simp] theorem eqb_str (i j : Str) : eqb (.str i) (.str j) = decide (i = j) := by
  simp only [eqb, toPy, PyData.eqv]
  rw [Bool.eq_iff_iff]
  simp
@[simp] theorem eqb_nil : eqb (.lst []) (.lst []) = true := by decide +kernel
@[simp] theorem pl_int (n : Nat) (i : Int) : pl n (.int i) = true := by cases n <;> simp [pl]
@[simp] theorem pl_bl (n : Nat) (i : Bool) : pl n (.bl i) = true := by cases n <;> simp [pl]
@[simp] theorem pl_non (n : Nat) : pl n .non = true := by cases n <;> simp [pl]
@[simp] theorem eqD_i (i j : Int) (Q : D → Prop) : eqD (.int i) (.int j) Q = Q (.bl (decide (i = j))) := by
  show (pl 64 (.int i) = true ∧ pl 64 (.int j) = true ∧ Q (.bl (eqb (.int i) (.int j)))) = _
  simp
@[simp] theorem neD_i (i j : Int) (Q : D → Prop) : neD (.int i) (.int j) Q = Q (.bl (!decide (i = j))) := by
  show (pl 64 (.int i) = true ∧ pl 64 (.int j) = true ∧ Q (.bl (!eqb (.int i) (.int j)))) = _
  simp
@[simp] theorem ix_t3_0 (a b c : D) (Q : D → Prop) : ixD (.tup [a, b, c]) (.int 0) Q = Q a := by simp [ixD, atI, ixN]
@[simp] theorem ix_t3_1 (a b c : D) (Q : D → Prop) : ixD (.tup [a, b, c]) (.int 1) Q = Q b := by simp [ixD, atI, ixN]
@[simp] theorem ix_t3_2 (a b c : D) (Q : D → Prop) : ixD (.tup [a, b, c]) (.int 2) Q = Q c := by simp [ixD, atI, ixN]
@[simp] theorem lineLe (n : Nat) (h : n ≤ 1000 := by decide) : n ≤ sizeLine ↔ True := ⟨fun _ => trivial, fun _ => Nat.le_trans h (by decide)⟩
end ND

/-! ND12: own errors over Exception, with one field -/
namespace ND
open PySem PySem.Spec L2 Builtin Builtin.ObjectAttr
open PyProof.Rows (envOfC)

abbrev exT : List Value := [.type "Exception", .type "BaseException", .type "object"]
/-- what the written part says of an error's class nm, at C, whose __init__(self, fld) stores fld -/
structure ErC (K : PySem.W.Frag) (mg : Str → Option Value) (nm fld : Str) (C fI : Addr) : Prop where
  gC : mg nm = some (.ref C)
  ini : PySem.W.excInitIn K C exT "Exception.__new__" = true
  ovr : PySem.W.excOver K C exT = true
  tkr : PySem.W.takerIn K C fld = some none
  noN : PySem.W.findIn K (.ref C) fld = some none
  sa : PySem.W.findIn K (.ref C) "__setattr__" = some (some (.builtin "object.__setattr__"))
  iC : PySem.W.findIn K (.ref C) "__init__" = some (some (.ref fI))
  tC : PySem.W.typeIn K (.ref fI) = some (.type "function")
  kC : PySem.W.keepIn K (.ref C) = true
  exC : PySem.W.subIn K (.ref C) (.type "BaseException") = some true
  tyC : PySem.W.typeIn K (.ref C) = some (.type "type")
  hdC : PySem.W.hasDictIn K C = true
section
variable {prog : Program} {w : World} {A : Around} {E : Value → Shared → Prop} {R : Result → Shared → Prop} {hp : Heap} {g : Array GenState} {d : Drawn} {t : Nat} {os : OsState} {K : PySem.W.Frag} {mg : Str → Option Value} {nm fld : Str} {C fI : Addr}
theorem er_store {tk : Tok} {v : Value} {x t0 : Addr} (T : ErC K mg nm fld C fI) (X : K.In hp) (hx : hp.get? x = some (HandSPX.excO C t0))
    (hq : ∀ h' tk' dx, (∀ b o, b ≠ x → hp.get? b = some o → h'.get? b = some o) → hp.objs.size ≤ dx → dx ≠ x → h'.get? x = some { cls := .ref C, dict := some dx, data := .fields #[.ref t0, .none, .none, .none, .bool false, .none] } →
      h'.Ns1 dx (fun y => if y = fld then some v else none) → R (.ok (.ret .none)) ⟨h', g, d, tk', os⟩) :
    codeAny (model prog w) A (.call (.builtin "object.__setattr__") ⟨[.ref x, .str fld tk, v], []⟩) R ⟨hp, g, d, t, os⟩ := by
  obtain ⟨cd, hc, _⟩ := PySem.W.any_some T.ovr
  have hh : cd.hasDict = true := by
    have h1 := T.hdC
    unfold PySem.W.hasDictIn at h1
    rw [hc] at h1
    exact h1
  have other : x ≠ hp.objs.size := Nat.ne_of_lt (Heap.lt_size hx)
  refine PySem.W.osa_openX (s := ⟨hp, g, d, t, os⟩) F.store_Exception X (ox := HandSPX.excO C t0) (od := none) ⟨hx, rfl, rfl, trivial⟩ T.ovr T.tkr fun b => ?_
  have hcls : PySem.W.Looks (model prog w) hp (classData C) cd := PySem.W.looks_clsIn X hc
  obtain ⟨cn, bs, mro, ns, qn, hd, sn, sb, ab, col, del⟩ := cd
  dsimp only at hh
  subst hh
  show wpAny _ _ (storeInOwnDict (.ref x) (.ref C) (.str fld tk) fld v b) _ _ _
  unfold storeInOwnDict ownDictForStores
  repeat (first | with_reducible refine HandSPX.store_in_new ?_ ?_ | with_reducible refine wpAny_loadPart_at hx ?_ | with_reducible refine hcls.at ?_ | wp_step)
  · exact ⟨_, #[], _, (Heap.get?_update_ne _ _ _ _ other.symm).trans (Heap.get?_push_at rfl rfl), rfl, fun e he => absurd he (by simp), fun _ => rfl⟩
  · intro h' tk' named only
    have still : (hp.push { cls := .type "dict", data := .dict #[] }).get? x = some (HandSPX.excO C t0) := Heap.get?_push_of_some _ hx
    exact hq h' tk' hp.objs.size (fun b o hb ho => (only.2 b (Nat.ne_of_lt (Heap.lt_size ho))).trans ((Heap.get?_update_ne _ _ _ _ hb).trans (Heap.get?_push_of_some _ ho))) (Nat.le_refl _) other.symm ((only.2 x other).trans (Heap.get?_update_self _ still rfl)) named
/-- what is left of C(v): the error at e, its dict at dx -/
structure ErMade (h h' : Heap) (e C dx : Addr) (fld : Str) (v : Value) : Prop where
  keep : ∀ b o, h.get? b = some o → h'.get? b = some o
  new : h.objs.size ≤ e
  obj : ∃ oe vs, h'.get? e = some oe ∧ oe.cls = .ref C ∧ oe.dict = some dx ∧ oe.data = .fields vs ∧ vs[1]? = some .none
  big : h.objs.size ≤ dx
  ne : dx ≠ e
  ns : h'.Ns1 dx (fun y => if y = fld then some v else none)
/-- the text of __init__(self, fld): self.fld = fld -/
structure ErInit (K : PySem.W.Frag) (qual fld : Str) (st : Stmt) (fI : Addr) : Prop where
  fn : ∃ fd, Fun K "__init__" qual st fI fd
  body : ∃ q1 q2 q3 q4, defBody st = [.Assign [.Attribute (.Name "self" q1) fld q2] (.Name fld q3) q4]
  bind : ∀ (kV doc pm : Value) (an : Option Addr) (cdv ct a b : Value), bindArgs (PySem.W.fnOf "__init__" qual (defArgs st) (defBody st) (defScope st) .none kV doc pm an cdv ct) ⟨[a, b], []⟩ = pure [(("self" : Str), a), (fld, b)]
  kinds : ∀ a b : Value, ([(("self" : Str), a), (fld, b)].all fun y => (defScope st).names.lookup y.1 == some .local || (defScope st).names.lookup y.1 == some .cell) = true
  kSelf : ∀ L a cd, (envOfC qual (defScope st) L a cd).kindOf "self" = some .local
  kFld : ∀ L a cd, (envOfC qual (defScope st) L a cd).kindOf fld = some .local
  bSelf : ∀ L a cd (u v : Value), bindL (envOfC qual (defScope st) L a cd).kindOf [(("self" : Str), u), (fld, v)] (fun _ => none) "self" = some u
  bFld : ∀ L a cd (u v : Value), bindL (envOfC qual (defScope st) L a cd).kindOf [(("self" : Str), u), (fld, v)] (fun _ => none) fld = some v
  sc : (defScope st).kind = .function ∧ (defScope st).isGenerator = false ∧ (defScope st).isCoroutine = false
  nd : (fld == ("__debug__" : Str)) = false
theorem er_local {M : Model} {s : Shared} {env : Env} {x : Str} {pos : Pos} {v : Value} {m : Str → Option Value} {Q : Value → Shared → Prop} {A : Around} {E : Value → Shared → Prop} (hk : env.scope.kind = .function) (hl : env.kindOf x = some .local) (hn : s.heap.Ns env.locals m) (hv : m x = some v) (hd : (x == ("__debug__" : Str)) = false) (h : Q v s) :
    wpAny M A (eval (.Name x pos) env) Q E s := wpAny_Name (wpAny_loadName_local hk hl hn hv h) hd
theorem er_init {s : Shared} {x t0 : Addr} {v : Value} {qual : Str} {st : Stmt} (T : ErC K mg nm fld C fI) (N : ErInit K qual fld st fI) (X : K.In s.heap) (lim : s.heap.NoLimit) (hx : s.heap.get? x = some (HandSPX.excO C t0)) (room : A.depth < recursionLimit)
    (hq : ∀ h' tk dx, (∀ b o, b ≠ x → s.heap.get? b = some o → h'.get? b = some o) → s.heap.objs.size ≤ dx → dx ≠ x → h'.get? x = some { cls := .ref C, dict := some dx, data := .fields #[.ref t0, .none, .none, .none, .bool false, .none] } →
      h'.Ns1 dx (fun y => if y = fld then some v else none) → R (.ok (.ret .none)) { s with heap := h', toks := tk }) :
    codeAny (model prog w) A (.call (.ref fI) ⟨[.ref x, v], []⟩) R s := by
  obtain ⟨fd, oc, od, kV, doc, pm, an, cdv, ct, osl, rfl, here, code⟩ := N.fn.imp fun _ F => F.ex
  obtain ⟨q1, q2, q3, q4, text⟩ := N.body
  obtain ⟨sc1, sc2, sc3⟩ := N.sc
  refine Att.call_fn (binds := [(("self" : Str), .ref x), (fld, v)]) X lim here code room (BindsTo.of_eq (N.bind kV doc pm an cdv ct _ _)) (N.kinds _ _) (fun s₁ IC => ?_) sc3 sc2 sc1
  obtain ⟨h₁, tk₁, rfl⟩ := IC.toInCall.same
  have k : ∀ b o, s.heap.get? b = some o → h₁.get? b = some o := IC.toInCall.keep
  have names := IC.toInCall.ns
  have X₁ : K.In h₁ := X.keeps k
  have hx₁ := k _ _ hx
  rw [text]
  refine wpAny_execs_cons (plainObj_wpAny_Assign_Attribute ?_)
  refine er_local sc1 (N.kFld _ _ _) names (N.bFld _ _ _ _ _) N.nd (er_local sc1 (N.kSelf _ _ _) names (N.bSelf _ _ _ _ _) (by decide) ?_)
  refine PySem.W.set_plain X₁ (ox := HandSPX.excO C t0) (od := none) ⟨hx₁, rfl, rfl, trivial⟩ T.sa ?_
  refine er_store T X₁ hx₁ fun h₃ tk₃ dx k₃ dn dne hx₃ ns₃ => ?_
  have z : s.heap.objs.size < h₁.objs.size := names.lt
  exact wpAny_execs_nil (hq h₃ tk₃ dx (fun b o hb e => k₃ b o hb (k b o e)) (Nat.le_of_lt (Nat.lt_of_lt_of_le z dn)) dne hx₃ ns₃)
theorem er_made {s : Shared} {v : Value} {qual : Str} {st : Stmt} (T : ErC K mg nm fld C fI) (N : ErInit K qual fld st fI) (X : K.In s.heap) (lim : s.heap.NoLimit) (room : A.depth + 1 < recursionLimit)
    (hq : ∀ h' tk e dx, ErMade s.heap h' e C dx fld v → R (.ok (.ret (.ref e))) { s with heap := h', toks := tk }) : codeAny (model prog w) A (.call (.ref C) ⟨[v], []⟩) R s := by
  obtain ⟨hp, g, dr, tk, os⟩ := s
  obtain ⟨cn, Nn, qn, bs, bm, hdct, sn, sub, ab, col, dd, k0, k1, k2, k3, k5, hC, hbm⟩ := PySem.W.excInit_of X T.ini
  have k : ∀ b o, hp.get? b = some o → ((hp.push (PySem.W.kdv_tup [v])).push (HandSPX.excO C hp.objs.size)).get? b = some o := fun b o e => Heap.get?_push_of_some _ (Heap.get?_push_of_some _ e)
  have at_e : ((hp.push (PySem.W.kdv_tup [v])).push (HandSPX.excO C hp.objs.size)).get? (hp.objs.size + 1) = some (HandSPX.excO C hp.objs.size) := by heap_get
  refine HandSPX.call_own F.excBase_Exception hbm hC (PySem.W.looks_findIn X T.iC) (fun self => PySem.W.bind_fn X self T.tC) (by show 1 ≤ sizeLine; decide) ?_
  refine er_init (s := ⟨(hp.push (PySem.W.kdv_tup [v])).push (HandSPX.excO C hp.objs.size), g, dr, tk, os⟩) T N (X.keeps k) (lim.keeps k) at_e (by show A.depth + 1 < recursionLimit; exact room) fun h' tk' dx kept dn dne hx ns => ?_
  have z : hp.objs.size + 1 + 1 ≤ dx := by
    have q := dn
    rw [Heap.size_push, Heap.size_push] at q
    exact q
  exact ⟨rfl, hq h' tk' (hp.objs.size + 1) dx ⟨fun b o e => kept b o (Nat.ne_of_lt (Nat.lt_succ_of_lt (Heap.lt_size e))) (k b o e), Nat.le_succ _, ⟨_, _, hx, rfl, rfl, rfl, rfl⟩, Nat.le_trans (Nat.le_trans (Nat.le_succ _) (Nat.le_succ _)) z, dne, ns⟩⟩
end

/-! ### raising it -/
section
variable {B : Bs} {X : Cx} {C fI : Addr} {nm fld qual : Str} {st : Stmt} {a : Expr} {fa : GE} {p pos : Pos} {k : Nat} {R : Er → Prop} {E : XK}
theorem rel_one {v : V} {u : Value} (r : RelV v u) (f : Str) : RelO (List.lookup f [(fld, v)]) (if f = fld then some u else none) := by
  by_cases e : f = fld
  · subst e
    rw [if_pos rfl]
    simpa [List.lookup] using (show RelO (some v) (some u) from r)
  · rw [if_neg e]
    have b : (f == fld) = false := by simpa using e
    simp only [List.lookup, b]
    trivial
/-- nm(a) makes an error of the class at C, whose dict holds a's value -/
theorem pmk_er {t : TE} (T : ErC X.K X.mg nm fld C fI) (N : ErInit X.K qual fld st fI) (hr : Room k X.A) (ha : PE X a t) (hg : Gl X nm) (ndb : (nm == ("__debug__" : Str)) = false) (he : starEach (a :: []) X.env = (false, eval a X.env) :: starEach [] X.env := by rfl) (hpl : (backTo pos (starEach [] X.env)).any (·.1) = false := by rfl) :
    PMk X (.Call (.Name nm p) [a] [] pos) (fun σ H Q => t σ H fun v G => ∀ dx, G dx = none → Q (.ref C) (some dx) (upd G dx (.xd [(fld, v)]))) := fun pins s σ H Q I h => by
  refine wpAny_Call_Name_kw (ld_glob I hg T.gC (PySem.W.callWith_K (h₀ := X.base) I.ok.mod.kin T.kC (thn ((pa_cons ha pa_nil he).run pos pins s σ H (fun vs G => match vs with | [v] => ∀ dx, G dx = none → Q (.ref C) (some dx) (upd G dx (.xd [(fld, v)])) | _ => False) I h) fun us z ⟨vs, G, J, vals, q⟩ => ⟨J.kIn, ?_⟩) he hpl) ndb)
  match vs, vals, q with
  | [v], .cons (b := u) rv .nil, q =>
    have lim := J.nolimit
    obtain ⟨hp, g, dr, tk, os⟩ := z
    refine wpAny_call (er_made T N J.kIn lim (by have := hr.dp; omega) fun h' tk' e dx M => ?_)
    show MkP X pins σ Q (.ref e) ⟨h', g, dr, tk', os⟩
    obtain ⟨oe, fv, at_e, cls, dct, fields, ctx⟩ := M.obj
    obtain ⟨G', g1, g2⟩ := restrict h' fun b => decide (b ≠ e)
    have off : ∀ b, b ≠ e → G'.get? b = h'.get? b := fun b hb => g1 b (decide_eq_true hb)
    have gone : G'.get? e = none := g2 e (by simp)
    have old : ∀ b o, hp.get? b = some o → G'.get? b = some o := fun b o q => (off b (Nat.ne_of_lt (Nat.lt_of_lt_of_le (Heap.lt_size q) M.new))).trans (M.keep b o q)
    have ok : ObjOk X.prog X.w (upd G dx (.xd [(fld, v)])) G' dx (.xd [(fld, v)]) := ⟨_, M.ns.at (fun o q => (off dx M.ne).trans q), fun f => rel_one rv f⟩
    have J2 : Inv X pins σ (upd G dx (.xd [(fld, v)])) ⟨G', g, dr, tk', os⟩ := J.laid (t' := tk') old M.big ok
    refine ⟨e, oe, fv, ⟨G', g, dr, tk', os⟩, _, .ref C, some dx, rfl, J2, fun b o q => ?_, gone, at_e, ⟨cls, dct⟩, fields, ctx, ?_, rfl, J.bare, raises_own T.exC T.tyC, q dx (J.hok.fresh M.big)⟩
    · have hb : b ≠ e := fun z => by
        have q' : G'.get? b = some o := q
        rw [z, gone] at q'
        cases q'
      exact (off b hb).symm.trans q
    · rw [upd_ne (Ne.symm M.ne)]
      exact J.hok.fresh M.new
/-- raise nm(a) -/
@[simp] def gRaise (nm fld : Str) (fa : GE) (R : Er → Prop) (_ : Ed) (σ : List SV) : Prop := fa σ fun d => R ⟨nm, [(fld, d)]⟩
theorem sd_raise {pos2 : Pos} (hc : X.calm = true) (T : ErC X.K X.mg nm fld C fI) (N : ErInit X.K qual fld st fI) (hr : Room k X.A) (tk : Takes X (fun c o _ H => E c o H)) (hE : FinE B.W X.kn B.F B.H R E) (ha : ED B X a fa) (hg : Gl X nm := by rfl) (ndb : (nm == ("__debug__" : Str)) = false := by decide)
    (he : starEach (a :: []) X.env = (false, eval a X.env) :: starEach [] X.env := by rfl) (hpl : (backTo pos (starEach [] X.env)).any (·.1) = false := by rfl) : SD B X (.Raise (some (.Call (.Name nm p) [a] [] pos)) none pos2) (gRaise nm fld fa R) :=
  ⟨ps_imp (ps_raise hc tk (pmk_er T N hr ha.run hg ndb he hpl)) fun Dn s H ⟨σ, F, Ed, Rl, q, kk⟩ => ⟨σ, F, _, Rl, q, fun d qd F1 H1 v g1 d1 r1 dx hdx =>
    hE _ qd F1 _ (.ref C) (some dx) ((Rl.base.trans g1).trans (Grow.laid g1.fh hdx)) (d1.laid hdx) ⟨T.gC, fun _ => ⟨dx, [(fld, v)], rfl, upd_same, .cons r1 .nil⟩, fun z => nomatch z⟩⟩⟩
end
end ND

/-! ND13: try with several except clauses, named or not -/
namespace ND
open PySem PySem.Spec L2
open PyProof.Rows (envOfC)

/-- an exception that has landed at a, in the state s, to be handled -/
structure Air (X : Cx) (pins : List (Addr × Obj)) (a : Addr) (cls : Value) (d : Option Addr) (σ : L2.St) (H : Hp) (s : Shared) : Prop where
  fly : ∃ G, HandSPX.FlyingZ G (X.env :: X.outer) a (Zc cls d) s.heap ∧ (∀ h, G.StaysIn h → s.heap.UpToSlots h → Inv X pins σ H { s with heap := h }) ∧
    ∀ h (W : WX), HandSPX.HeldZ G (X.env :: X.outer) a (Zc cls d) X.env.locals h → s.heap.UpToSlots h → W cls d σ H → XE X W (.ref a) { s with heap := h }
  na : H a = none
  nL : a ≠ X.env.locals
  nF : a ∉ X.fs
section
variable {X : Cx} {pins : List (Addr × Obj)} {a : Addr} {cls : Value} {d : Option Addr} {σ : L2.St} {H : Hp} {s : Shared}
theorem Air.inv (q : Air X pins a cls d σ H s) : Inv X pins σ H s := by
  obtain ⟨G, fl, inv, _⟩ := q.fly
  exact inv s.heap fl.1 (Heap.UpToSlots.refl _)
theorem Air.again (q : Air X pins a cls d σ H s) {M : Model} {A : Around} {E : Value → Shared → Prop} {P : Unit → Shared → Prop} (h : ∀ t, Air X pins a cls d σ H t → P () t) : wpAny M A (setFlight (.ref a) none) P E s := by
  obtain ⟨G, fl, inv, out⟩ := q.fly
  exact HandSPX.lands_againZ fl fun h' fl' up => h _ ⟨⟨G, fl', fun h2 st up2 => inv h2 st (up.trans up2), fun h2 W hh up2 => out h2 W hh (up.trans up2)⟩, q.na, q.nL, q.nF⟩
theorem Air.suite (q : Air X pins a cls d σ H s) : ∃ oe, s.heap.get? a = some oe ∧ Zc cls d oe ∧ (∃ vs, oe.data = .fields vs) ∧ Inv (X.suite a ((a, oe) :: (X.pn ++ pins))) [] σ H s := by
  obtain ⟨G, fl, _, _⟩ := q.fly
  obtain ⟨oe, vs, at_a, zc, fields⟩ := fl.there
  exact ⟨oe, at_a, zc, ⟨vs, fields⟩, q.inv.suite at_a fields q.na q.nL q.nF⟩
/-- what the body lets out lands -/
theorem air_of {xe : Value → Shared → Prop} {W : WX} {u : Value} {P : Unit → Shared → Prop} {E : Value → Shared → Prop} (ok : X.Ok) (hs : X.stack = X.env :: X.outer) (hf : X.env.frame = some X.env.locals) (x : XE (X.tr (X.pn ++ pins) xe) W u s)
    (h : ∀ a cls d σ H t, u = .ref a → Air X pins a cls d σ H t → W cls d σ H → P () t) : wpAny (model X.prog X.w) X.A (noteFrame u X.env) (fun _ s₂ => wpAny (model X.prog X.w) X.A (setFlight u none) P E s₂) E s := by
  obtain ⟨a, G, sI, _, σ, H, cls, d, rfl, J', nb, up, sky, na, os, ag, w⟩ := x
  have J : Inv X pins σ H sI := J'.ofTry ok
  have frames : X.A.frames = some (X.env :: X.outer) := by rw [ok.frames, hs]
  refine Sky.land Zc.steady frames hf (by rw [← hs]; exact sky) fun h3 fl up3 => h a cls d σ H _ rfl ⟨⟨G, fl, fun h2 st up2 => J.landed nb st ((up.trans up3).trans up2) os ag, fun h2 V hh up2 v => ?_⟩, na, ?_, ?_⟩ w
  · exact ⟨a, G, sI, pins, σ, H, cls, d, rfl, J, nb, (up.trans up3).trans up2, .inr (.inr (by rw [hs]; exact hh)), na, os, ag, v⟩
  all_goals
    obtain ⟨oe, vs, at_a, _, fields⟩ := fl.there
    have out : a ∉ frs (X.env :: X.outer) := fun hm => by
      obtain ⟨_, o', e', no⟩ := fl.2.2.1.mem hm
      rw [at_a] at e'
      cases e'
      exact no _ fields
  · exact fun z => out (List.mem_filterMap.mpr ⟨X.env, List.mem_cons_self, by rw [hf, z]⟩)
  · intro hm
    obtain ⟨e, he, q⟩ := List.mem_filterMap.mp hm
    exact out (List.mem_filterMap.mpr ⟨e, List.mem_cons_of_mem _ he, q⟩)
/-- no clause is left -/
theorem Air.pass {Wout : WX} {P : Flow → Shared → Prop} (q : Air X pins a cls d σ H s) (hf : X.env.frame = some X.env.locals) (tk : Takes X Wout) (w : Wout cls d σ H) : wpAny (model X.prog X.w) X.A (handleBy (.ref a) X.env []) P X.xe s := by
  obtain ⟨G, fl, _, out⟩ := q.fly
  refine wpAny_handleBy_nil ?_
  obtain ⟨_, _, _, oe, vs, T, oT, ts, at_a, zc, fields, trace, _⟩ := id fl
  unfold PySem.passOn
  refine wpAny_bind (wpAny_field at_a fields trace ?_)
  rw [if_neg (show ¬ ((Value.ref T == Value.none) = true) from by simp)]
  have fin : wpAny (model X.prog X.w) X.A (setFlight (.ref a) X.env.frame) (fun _ s4 => wpAny (model X.prog X.w) X.A (throw (.ref a) : Sem Flow) P X.xe s4) X.xe s := by
    rw [hf]
    exact HandSPX.setFlight_upZ fl fun h4 hh up => wpAny_throw (tk _ _ (out h4 Wout hh up w))
  first
    | exact wpAny_bind (wpAny_pure (wpAny_bind fin))
    | exact wpAny_bind fin
end

/-- an except clause: its class, the slot of its name, what its suite asks -/
structure Hdl where
  c : Value
  slot : Option Nat
  ts : Addr → Value → Option Addr → TS
def goneD (D : Ends) (i : Nat) : Ends := { nx := fun σ H => D.nx (σ.set i none) H, rt := D.rt, bk := fun σ H => D.bk (σ.set i none) H, ct := fun σ H => D.ct (σ.set i none) H }
def Hdl.take (h : Hdl) (D : Ends) (a : Addr) (cls : Value) (d : Option Addr) (σ : L2.St) (H : Hp) : Prop := match h.slot with
  | none => h.ts a cls d D σ H
  | some i => h.ts a cls d (goneD D i) (σ.set i (some (.ref a))) H
def wH (K : PySem.W.Frag) (Wout : WX) (D : Ends) : List Hdl → WX
  | [] => Wout
  | h :: r => fun cls d σ H => ∃ b, PySem.W.exmOne K cls h.c = some b ∧ (b = true → ∀ a, H a = none → h.take D a cls d σ H) ∧ (b = false → wH K Wout D r cls d σ H)
inductive HdlsOk (X : Cx) : List ExceptHandler → List Hdl → Prop
  | nil : HdlsOk X [] []
  | plain {x : Str} {c : Value} {ts : Addr → Value → Option Addr → TS} {b₀ : Stmt} {suite : List Stmt} {np pos' : Pos} {hs : List ExceptHandler} {l : List Hdl} (hc : Names X x c)
      (body : ∀ (a : Addr) (oe : Obj) (cls : Value) (d : Option Addr) (pn : List (Addr × Obj)), Zc cls d oe → (∃ vs, oe.data = .fields vs) → PSs (X.suite a ((a, oe) :: pn)) (b₀ :: suite) (ts a cls d)) (r : HdlsOk X hs l) :
      HdlsOk X (.ExceptHandler (some (.Name x np)) none (b₀ :: suite) pos' :: hs) (⟨c, none, ts⟩ :: l)
  | named {x n : Str} {i : Nat} {c : Value} {ts : Addr → Value → Option Addr → TS} {b₀ : Stmt} {suite : List Stmt} {np pos' : Pos} {hs : List ExceptHandler} {l : List Hdl} (hc : Names X x c) (hi : X.N[i]? = some n) (hl : X.env.kindOf n = some .local)
      (body : ∀ (a : Addr) (oe : Obj) (cls : Value) (d : Option Addr) (pn : List (Addr × Obj)), Zc cls d oe → (∃ vs, oe.data = .fields vs) → PSs (X.suite a ((a, oe) :: pn)) (b₀ :: suite) (ts a cls d)) (r : HdlsOk X hs l) :
      HdlsOk X (.ExceptHandler (some (.Name x np)) (some n) (b₀ :: suite) pos' :: hs) (⟨c, some i, ts⟩ :: l)
section
variable {X : Cx} {pins : List (Addr × Obj)} {a : Addr} {cls : Value} {d : Option Addr} {σ : L2.St} {H : Hp} {s : Shared} {D : Ends} {Wout : WX}
/-- the test of a clause -/
theorem Air.test {x : Str} {c : Value} {np : Pos} {b : Bool} {P : Bool → Shared → Prop} {E E' : Value → Shared → Prop} (q : Air X pins a cls d σ H s) (hc : Names X x c) (hb : PySem.W.exmOne X.K cls c = some b) (h : P b s) :
    wpAny (model X.prog X.w) (X.A.mark (some (.ref a))) (eval (.Name x np) X.env) (fun c s₁ => wpAny (model X.prog X.w) (X.A.mark (some (.ref a))) (excMatches (.ref a) c) P E s₁) E' s := by
  obtain ⟨oe, at_a, zc, _, S⟩ := q.suite
  have LT : PySem.W.Looks (model X.prog X.w) s.heap (typeOf (.ref a)) cls := fun A Q E s k q => wpAny_typeOf_ref (k _ _ at_a) (by rw [zc.1]; exact q)
  have LM := PySem.W.exm_one (M := model X.prog X.w) q.inv.kIn LT hb
  obtain ⟨glob, ndb, isOwn | ⟨no, isB, nn⟩⟩ := hc
  · exact ld_glob (X := X.suite a ((a, oe) :: (X.pn ++ pins))) S glob isOwn (LM.here h) ndb
  · exact ld_blt (X := X.suite a ((a, oe) :: (X.pn ++ pins))) S glob no isB (LM.here h) nn ndb
theorem Air.by {hs : List ExceptHandler} {l : List Hdl} (hN : X.N.Nodup) (hf : X.env.frame = some X.env.locals) (tk : Takes X Wout) (q : Air X pins a cls d σ H s) (ok : HdlsOk X hs l) (w : wH X.K Wout D l cls d σ H) : wpAny (model X.prog X.w) X.A (handleBy (.ref a) X.env hs) (SP X pins D) X.xe s := by
  induction ok with
  | nil => exact q.pass hf tk w
  | plain hc body r ih =>
    obtain ⟨b, hb, yes, no⟩ := w
    refine wpAny_handleBy_cons (codeAny_handlers_test (q.test hc hb ?_)) (by intro z; cases z)
    cases b with
    | false => exact ih (no rfl)
    | true =>
      refine codeAny_handlers_suite (q.again fun t qt => ?_)
      obtain ⟨oe, at_a, zc, fields, S⟩ := qt.suite
      refine wpAny_mono ((body a oe cls d (X.pn ++ pins) zc fields).run [] t σ H _ S (yes rfl a q.na)) (fun f s6 h => ?_) fun _ _ z => z.elim
      cases f <;> first
        | (obtain ⟨v, _, _, S6, r6, q6⟩ := h; exact ⟨_, _, _, S6.unsuite q.inv.ok, r6, q6⟩)
        | (obtain ⟨_, _, S6, q6⟩ := h; exact ⟨_, _, S6.unsuite q.inv.ok, q6⟩)
  | @named x n i c ts b₀ suite np pos' hs l hc hi hl body r ih =>
    obtain ⟨b, hb, yes, no⟩ := w
    refine wpAny_handleBy_cons (codeAny_handlers_test (q.test hc hb ?_)) (by intro z; cases z)
    cases b with
    | false => exact ih (no rfl)
    | true =>
      refine codeAny_handlers_suite_as (q.again fun t qt => ?_)
      obtain ⟨oe, at_a, zc, fields, S⟩ := qt.suite
      refine store_ok (X := X.suite a ((a, oe) :: (X.pn ++ pins))) (v := .ref a) S hN hi (.inl hl) rfl (fun s5 S5 => ?_) (.inr hl)
      refine wpAny_mono ((body a oe cls d (X.pn ++ pins) zc fields).run [] s5 _ H _ S5 (yes rfl a q.na)) (fun f s6 h => ?_) fun _ _ z => z.elim
      have fin : ∀ {σ6 : L2.St} {H6 : Hp} {P : Shared → Prop}, Inv (X.suite a ((a, oe) :: (X.pn ++ pins))) [] σ6 H6 s6 → (∀ s7, Inv X pins (σ6.set i none) H6 s7 → P s7) → wpAny (model X.prog X.w) X.A (do bindName X.env n .none; unbindBehindTheSuite X.env n pos') (fun _ s7 => P s7) X.xe s6 :=
        fun {σ6 H6 P} S6 hp => gone_ok (S6.unsuite q.inv.ok) hN hi hl hp
      cases f <;> first
        | (obtain ⟨v, _, _, S6, r6, q6⟩ := h; exact fin S6 fun s7 J7 => ⟨_, _, _, J7, r6, q6⟩)
        | (obtain ⟨_, _, S6, q6⟩ := h; exact fin S6 fun s7 J7 => ⟨_, _, J7, q6⟩)
theorem ps_try_h {body : List Stmt} {h₀ : ExceptHandler} {hs : List ExceptHandler} {l : List Hdl} {tb : WX → TS} {pos : Pos} (hst : X.stack = X.env :: X.outer) (hf : X.env.frame = some X.env.locals) (hN : X.N.Nodup) (tk : Takes X Wout)
    (hb : ∀ (W : WX) (pn : List (Addr × Obj)) (xe : Value → Shared → Prop), Takes (X.tr pn xe) W → PassesOwn (model X.prog X.w) X.A X.env xe → PSs (X.tr pn xe) body (tb W)) (hh : HdlsOk X (h₀ :: hs) l) :
    PS X (.Try body (h₀ :: hs) [] [] pos) (fun D σ H => tb (wH X.K Wout D l) D σ H) :=
  ⟨fun pins s σ H D I h => by
    refine wpAny_Try_except (wpAny_mono ((hb (wH X.K Wout D l) (X.pn ++ pins) _ (fun u s' x => ?_) PassesOwn.looking).run [] s σ H D (I.toTry _) h) (fun f s1 r => ?_) fun _ _ e => e)
    · exact air_of I.ok hst hf x fun a cls d σ' H' t e q w => by
        subst e
        exact q.by hN hf tk hh w
    · cases f with
      | next =>
        obtain ⟨σ', H', J, q⟩ := r
        exact wpAny_execs_nil ⟨σ', H', J.ofTry I.ok, q⟩
      | brk =>
        obtain ⟨σ', H', J, q⟩ := r
        exact ⟨σ', H', J.ofTry I.ok, q⟩
      | cont =>
        obtain ⟨σ', H', J, q⟩ := r
        exact ⟨σ', H', J.ofTry I.ok, q⟩
      | ret u =>
        obtain ⟨v, σ', H', J, rv, q⟩ := r
        exact ⟨v, σ', H', J.ofTry I.ok, rv, q⟩⟩
end
end ND

/-! ND14: try by data (clauses that end with return) -/
namespace ND
open PySem PySem.Spec L2
open PyProof.Rows (envOfC)

theorem xd_notW {W : WT} {F H : Hp} {dx : Addr} {vs : List (Str × V)} (dk : DeckIn W F H) (e : H dx = some (.xd vs)) : ¬ InW W dx := fun z => by
  rcases z with ⟨pp, ep, o⟩ | ⟨x, hx, rfl⟩
  · obtain ⟨ns, m, n, h1, h2, _⟩ := (dk.dk _ ep).st
    rcases o with o | o <;> subst o
    · rw [h1] at e
      cases e
    · rw [h2] at e
      cases e
  · obtain ⟨ps, h1, _⟩ := dk.tb x hx
    rw [h1] at e
    cases e
theorem Rel.rebase {B : Bs} {F0 H0 : Hp} {K : Kn} {σ : List SV} {s : L2.St} {F H : Hp} (g : Grow B.W B.F B.H F0 H0) (b : DeckIn B.W B.F B.H) (R : Rel ⟨B.W, F0, H0⟩ K σ s F H) : Rel B K σ s F H := by
  obtain ⟨own, O, q⟩ := R.slots
  exact ⟨g.trans R.base, b, R.deck, R.len, own, ⟨O.inj, fun i a e => ⟨g.back (O.free i a e).1, (O.free i a e).2⟩⟩, q⟩
theorem rel_no {W : WT} {K : Kn} {F H : Hp} (e : Same F H) (dk : DeckIn W F H) (s : L2.St) : Rel ⟨W, F, H⟩ K (List.replicate s.length .no) s F H :=
  ⟨Grow.refl e, dk, dk, by simp, fun _ => none, ⟨fun _ _ _ z => (nomatch z), fun _ _ z => (nomatch z)⟩, fun i x v e1 _ => by
    have := List.eq_of_mem_replicate (List.mem_of_getElem? e1)
    subst this
    exact True.intro⟩
/-- the error er, of the class cls, its dict d, as it stands where a clause begins -/
structure ErAt (K : Kn) (W : WT) (F H : Hp) (cls : Value) (d : Option Addr) (er : Er) : Prop where
  ex : Same F H
  dk : DeckIn W F H
  rep : RepEr K F H cls d er
/-- a clause by data: its class's name, the slot of its name, its suite's reading -/
structure Cls3 where
  nm : Str
  slot : Option Nat
  g : Er → Addr → GS
def clauseStart (n : Nat) (a : Addr) : Option Nat → List SV
  | none => List.replicate n .no
  | some i => (List.replicate n .no).set i (.d (.opq (.ref a)))
/-- what is wanted of an error: by the first clause that takes it, else out -/
def hdG (M : Str → Str → Option Bool) (n : Nat) (out : Er → Prop) (Q : D → Prop) : List Cls3 → Er → Prop
  | [], er => out er
  | c :: r, er => ∃ b, M er.nm c.nm = some b ∧ if b = true then ∀ a, c.g er a { nx := fun _ => False, rt := Q, bk := fun _ => False, ct := fun _ => False } (clauseStart n a c.slot) else hdG M n out Q r er
def tsH (B : Bs) (K : Kn) (g : Er → Addr → GS) (a : Addr) (cls : Value) (d : Option Addr) : TS := fun Dn s H => ∃ F0 H0 er, ErAt K B.W F0 H0 cls d er ∧ LS ⟨B.W, F0, H0⟩ K (g er a) Dn s H
inductive ClausesOk (B : Bs) (X : Cx) : List ExceptHandler → List Cls3 → List Hdl → Prop
  | nil : ClausesOk B X [] [] []
  | plain {x : Str} {cv : Value} {g : Er → Addr → GS} {b₀ : Stmt} {suite : List Stmt} {np pos' : Pos} {hs : List ExceptHandler} {l : List Cls3} {l' : List Hdl} (hg : Gl X x) (nd : (x == ("__debug__" : Str)) = false) (hm : X.mg x = some cv)
      (body : ∀ (a : Addr) (oe : Obj) (cls : Value) (d : Option Addr) (pn : List (Addr × Obj)) (F0 H0 : Hp) (er : Er), Zc cls d oe → (∃ vs, oe.data = .fields vs) → ErAt X.kn B.W F0 H0 cls d er → SDs ⟨B.W, F0, H0⟩ (X.suite a ((a, oe) :: pn)) (b₀ :: suite) (g er a)) (r : ClausesOk B X hs l l') :
      ClausesOk B X (.ExceptHandler (some (.Name x np)) none (b₀ :: suite) pos' :: hs) (⟨x, none, g⟩ :: l) (⟨cv, none, fun a cls d => tsH B X.kn g a cls d⟩ :: l')
  | named {x n : Str} {i : Nat} {cv : Value} {g : Er → Addr → GS} {b₀ : Stmt} {suite : List Stmt} {np pos' : Pos} {hs : List ExceptHandler} {l : List Cls3} {l' : List Hdl} (hg : Gl X x) (nd : (x == ("__debug__" : Str)) = false) (hm : X.mg x = some cv) (hi : X.N[i]? = some n) (hl : X.env.kindOf n = some .local)
      (body : ∀ (a : Addr) (oe : Obj) (cls : Value) (d : Option Addr) (pn : List (Addr × Obj)) (F0 H0 : Hp) (er : Er), Zc cls d oe → (∃ vs, oe.data = .fields vs) → ErAt X.kn B.W F0 H0 cls d er → SDs ⟨B.W, F0, H0⟩ (X.suite a ((a, oe) :: pn)) (b₀ :: suite) (g er a)) (r : ClausesOk B X hs l l') :
      ClausesOk B X (.ExceptHandler (some (.Name x np)) (some n) (b₀ :: suite) pos' :: hs) (⟨x, some i, g⟩ :: l) (⟨cv, some i, fun a cls d => tsH B X.kn g a cls d⟩ :: l')
/-- the classes' relations -/
def ClsTab (K : Kn) (M : Str → Str → Option Bool) : Prop := ∀ x y b u v, M x y = some b → K.mg x = some u → K.mg y = some v → PySem.W.exmOne K.K u v = some b
section
variable {B : Bs} {X : Cx} {M : Str → Str → Option Bool}
theorem pss_er {X' : Cx} {sts : List Stmt} {g : Er → Addr → GS} {a : Addr} {cls : Value} {d : Option Addr} {K : Kn} (hk : X'.kn = K) (h : ∀ F0 H0 er, ErAt K B.W F0 H0 cls d er → SDs ⟨B.W, F0, H0⟩ X' sts (g er a)) : PSs X' sts (tsH B K g a cls d) :=
  ⟨fun pins s σ H Dn I ⟨F0, H0, er, at_, q⟩ => (h F0 H0 er at_).run.run pins s σ H Dn I (by rw [hk]; exact q)⟩
theorem ClausesOk.hdls {hs : List ExceptHandler} {l : List Cls3} {l' : List Hdl} (ok : ClausesOk B X hs l l') : HdlsOk X hs l' := by
  induction ok with
  | nil => exact .nil
  | plain hg nd hm body r ih => exact .plain ⟨hg, nd, .inl hm⟩ (fun a oe cls d pn zc fs => pss_er rfl fun F0 H0 er z => body a oe cls d pn F0 H0 er zc fs z) ih
  | named hg nd hm hi hl body r ih => exact .named ⟨hg, nd, .inl hm⟩ hi hl (fun a oe cls d pn zc fs => pss_er rfl fun F0 H0 er z => body a oe cls d pn F0 H0 er zc fs z) ih
theorem Same.trans' {A B C : Hp} (a : Same A B) (b : Same B C) : Same A C := a.trans b
/-- a clause takes what it is wanted to take -/
theorem ClausesOk.takes {hs : List ExceptHandler} {l : List Cls3} {l' : List Hdl} (ok : ClausesOk B X hs l l') {F F' H' : Hp} {Ed : Ed} {Dn : Ends} {Wout : WX} {out : Er → Prop} {cls : Value} {d : Option Addr} {er : Er} {s : L2.St} (hM : ClsTab X.kn M)
    (k : EdOk B X.kn F Ed Dn) (g : Grow B.W B.F B.H F' H') (dk : DeckIn B.W F' H') (rp : RepEr X.kn F' H' cls d er) (hl : s.length = X.N.length)
    (ho : out er → Wout cls d s H') (w : hdG M X.N.length out Ed.rt l er) : wH X.K Wout Dn l' cls d s H' := by
  have ends : ∀ i : Option Nat, EdOk ⟨B.W, F', H'⟩ X.kn F' { nx := fun _ => False, rt := Ed.rt, bk := fun _ => False, ct := fun _ => False } (match i with | none => Dn | some i => goneD Dn i) := fun i =>
    ⟨fun _ _ _ _ _ _ z => z.elim, fun dd v F2 H2 g2 dk2 r2 q => by
      have := k.rt dd v F2 H2 (g.trans g2) dk2 r2 q
      cases i <;> exact this, fun _ _ _ _ _ _ z => z.elim, fun _ _ _ _ _ _ z => z.elim⟩
  induction ok with
  | nil => exact ho w
  | @plain x cv gg b₀ suite np pos' hs l l' hg nd hm body r ih =>
    obtain ⟨b, hb, q⟩ := w
    refine ⟨b, hM _ _ _ _ _ hb rp.1 hm, fun e a na => ?_, fun e => ?_⟩
    · subst e
      have q1 := q a
      have R := rel_no (W := B.W) (K := X.kn) g.fh dk s
      rw [hl] at R
      exact ⟨F', H', er, ⟨g.fh, dk, rp⟩, _, F', _, R, q1, ends none⟩
    · subst e
      exact ih q
  | @named x n i cv gg b₀ suite np pos' hs l l' hg nd hm hi hll body r ih =>
    obtain ⟨b, hb, q⟩ := w
    refine ⟨b, hM _ _ _ _ _ hb rp.1 hm, fun e a na => ?_, fun e => ?_⟩
    · subst e
      have q1 := q a
      have R := (rel_no (W := B.W) (K := X.kn) g.fh dk s).set (i := i) (v := .ref a) (x := .opq (.ref a)) (.opq _)
      rw [hl] at R
      exact ⟨F', H', er, ⟨g.fh, dk, rp⟩, _, F', _, R, q1, ends (some i)⟩
    · subst e
      exact ih q
/-- try: body, except ..: clauses, each of which returns -/
@[simp] def gTry (M : Str → Str → Option Bool) (n : Nat) (R : Er → Prop) (tb : (Er → Prop) → GS) (l : List Cls3) (E : Ed) (σ : List SV) : Prop := tb (hdG M n R E.rt l) E σ
theorem sd_try {body : List Stmt} {h₀ : ExceptHandler} {hs : List ExceptHandler} {l : List Cls3} {l' : List Hdl} {tb : (Er → Prop) → GS} {pos : Pos} {R : Er → Prop} {E : XK} (hst : X.stack = X.env :: X.outer) (hf : X.env.frame = some X.env.locals) (hN : X.N.Nodup)
    (tk : Takes X (fun c o _ H => E c o H)) (hE : FinE B.W X.kn B.F B.H R E) (hM : ClsTab X.kn M)
    (hb : ∀ (pn : List (Addr × Obj)) (xe : Value → Shared → Prop) (E' : XK) (R' : Er → Prop), Passes (L2.CX X.prog X.w) (X.tr pn xe) E' → FinE B.W X.kn B.F B.H R' E' → PassesOwn (model X.prog X.w) X.A X.env xe → SDs B (X.tr pn xe) body (tb R'))
    (hh : ClausesOk B X (h₀ :: hs) l l') : SD B X (.Try body (h₀ :: hs) [] [] pos) (gTry M X.N.length R tb l) :=
  ⟨ps_imp (ps_try_h (Wout := fun c o _ H => E c o H) (tb := fun W Dn s H => ∃ R', FinE B.W X.kn B.F B.H R' (fun c o H => ∀ s : L2.St, s.length = X.N.length → W c o s H) ∧ LS B X.kn (tb R') Dn s H) hst hf hN tk
      (fun W pn xe tk' po => ⟨fun pins s σ H Dn I ⟨R', fin, q⟩ => (hb pn xe _ R' (fun pins σ H s e s' I c => tk' e s' (XE.of_call I (fun cls d H' h => h σ I.len) c)) fin po).run.run pins s σ H Dn I q⟩) hh.hdls)
    fun Dn s H ⟨σ, F, Ed, Rl, q, k⟩ => ⟨hdG M X.N.length R Ed.rt l, fun er w F' H' c o g dk rp s' hl =>
      hh.takes hM k g dk rp hl (fun ro => hE er ro F' H' c o g dk rp) w, σ, F, Ed, Rl, q, k⟩⟩
end
/-! ### within a clause: the error's field -/
/-- what the written part says of a class whose errors' fields are read -/
structure ErGet (K : PySem.W.Frag) (C : Addr) (fld : Str) : Prop where
  ga : PySem.W.findIn K (.ref C) "__getattribute__" = some (some (.builtin "BaseException.__getattribute__"))
  gg : PySem.W.findIn K (.ref C) "__getattr__" = some none
  exC : PySem.W.subIn K (.ref C) (.type "BaseException") = some true
  hdC : PySem.W.hasDictIn K C = true
  noN : PySem.W.findIn K (.ref C) fld = some none
/-- the classes nm of which known is true may be asked for fld -/
def GetTab (K : Kn) (known : Str → Bool) (fld : Str) : Prop := ∀ nm, known nm = true → ∃ C, K.mg nm = some (.ref C) ∧ ErGet K.K C fld
def gErF (known : Str → Bool) (fld : Str) (i : Nat) (er : Er) (a : Addr) (σ : List SV) (Q : D → Prop) : Prop := σ[i]? = some (.d (.opq (.ref a))) ∧ known er.nm = true ∧ ∃ x, er.fs.lookup fld = some x ∧ Q x
theorem repFs_look {K : Kn} {F : Hp} {f : Str} {x : D} : ∀ {vs : List (Str × V)} {ds : List (Str × D)}, RepFs K F vs ds → ds.lookup f = some x → ∃ v, vs.lookup f = some v ∧ Rep K F v x
  | _, _, .nil, h => by simp at h
  | (k, v) :: vs, (_, d) :: ds, .cons r t, h => by
    rw [List.lookup_cons] at h ⊢
    cases e : f == k with
    | true =>
      rw [e] at h
      cases h
      exact ⟨v, rfl, r⟩
    | false =>
      rw [e] at h
      exact repFs_look t h
section
variable {X : Cx} {W : WT} {F0 H0 : Hp} {cls : Value} {d : Option Addr} {er : Er} {a : Addr} {oe : Obj} {pn : List (Addr × Obj)} {known : Str → Bool} {fld x : Str} {i : Nat} {pos p : Pos}
theorem ed_erF (at_ : ErAt X.kn W F0 H0 cls d er) (zc : Zc cls d oe) (fields : ∃ vs, oe.data = .fields vs) (G : GetTab X.kn known fld) (he : PE (X.suite a ((a, oe) :: pn)) (.Name x p) (tVar i)) (hb : attributeBase (.Name x p) fld X.env (eval (.Name x p) X.env) = eval (.Name x p) X.env := by rfl) :
    ED ⟨W, F0, H0⟩ (X.suite a ((a, oe) :: pn)) (.Attribute (.Name x p) fld pos) (gErF known fld i er a) :=
  ⟨⟨fun pins s σ H Q I ⟨σd, F, Qd, R, ⟨sl, kn, y, hy, q⟩, k⟩ => by
    obtain ⟨C, gC, T⟩ := G _ kn
    obtain ⟨eC, hf, _⟩ := at_.rep
    have ec : cls = .ref C := Option.some.inj (eC.symm.trans gC)
    subst ec
    have ne : er.fs ≠ [] := fun z => by
      rw [z] at hy
      cases hy
    obtain ⟨dx, vs, rfl, at_dx, rf⟩ := hf ne
    obtain ⟨v, hv, rv⟩ := repFs_look rf hy
    obtain ⟨w0, hs, rw0⟩ := R.dat sl
    cases rw0
    have notW : ¬ InW W dx := xd_notW at_.dk at_dx
    refine attr_of hb (thn (he.run pins s σ H (fun w G1 => w = .ref a ∧ G1 = H) I ⟨_, hs, rfl, rfl⟩) fun u s1 ⟨w, H1, I1, rx, ew, eH⟩ => ?_)
    subst ew eH
    obtain rfl : u = Value.ref a := rx
    have st : H1 dx = some (.xd vs) := R.base.hh dx _ at_dx notW (by intro _ z; cases z)
    obtain ⟨held, _⟩ := I1.pin (a, oe) (List.mem_append_left _ List.mem_cons_self)
    obtain ⟨fv, hd⟩ := fields
    obtain ⟨mA, hns, hr⟩ := (show ObjOk X.prog X.w H1 s1.heap dx (.xd vs) from I1.hok dx _ st)
    obtain ⟨od, ho, hl⟩ := lookIn_ns hns
    obtain ⟨u, hu, ru⟩ := RelO.some_of (v := v) (o := mA fld) (by rw [← hv]; exact hr fld)
    have J : PySem.W.InstAt s1.heap a oe C (some od) := ⟨held, zc.1, by unfold PySem.W.notCls; rw [hd] <;> rfl, by rw [zc.2]; exact ho⟩
    exact HandSPX.exc_get I1.kIn J T.ga T.gg T.exC (PySem.W.findObj_own T.hdC T.noN rfl (by rw [hl, hu])) (handed_of ru) ⟨v, H1, I1.tok _, ru, k _ q F H1 v (Grow.refl R.ex) R.deck (rv.mono R.base.ff)⟩⟩⟩
end
end ND

/-! ND15: isinstance of a caught error that has a dict -/
namespace ND
open PySem PySem.Spec PySem.W PySem.Calls PyProof.Rows
section
variable {prog : Program} {w : World} {A : Around} {E : Value → Shared → Prop} {K : Frag} {x D : Addr} {ox : Obj} {od : Option Obj}
theorem find_class (T : L2.ExcC K D) : findObj K D od "__class__" = some (.bind (.builtin "getset_descriptor.__get__") (.builtin "object.__class__")) := by
  obtain ⟨cd, hc, _⟩ := any_some T.hd
  unfold findObj
  rw [hc, Option.bind_some, T.ha, Option.bind_some]
  simp [T.hn, T.ht]
theorem ask_class {s : Shared} {Q : Option Value → Shared → Prop} (T : L2.ExcC K D) (X : K.In s.heap) (J : InstAt s.heap x ox D od) (done : Q (some (.ref D)) { s with toks := s.toks + 1 }) : wpAny (model prog w) A (getAttr? (.ref x) "__class__") Q E s := by
  obtain ⟨hp, gs, dr, tk, os⟩ := s
  have isD := J.type (M := model prog w)
  have own := looks_findIn (M := model prog w) X T.hg
  have hook := looks_findIn (M := model prog w) X T.hk
  have got := looks_find (M := model prog w) X J (find_class T)
  have over : Looks (model prog w) hp (isInstance (.ref x) (.type "BaseException")) true := isD.andThen (looks_subIn X T.hs)
  have differs : (Value.builtin "BaseException.__getattribute__" == Value.builtin "object.__getattribute__") = false := by decide +kernel
  unfold getAttr? getAttrBy? getAttrBy
  refine wpAny_bind (wpAny_mkText (wpAny_bind (wpAny_attempt (wpAny_holding (wpAny_bind (isD.at (wpAny_bind (own.at ?_))))))))
  show wpAny _ _ (if (onTheHeap (Value.ref D) && Value.builtin "BaseException.__getattribute__" == Value.builtin "object.__getattribute__") = true then _ else _) _ _ _
  rw [differs, Bool.and_false, if_neg Bool.false_ne_true]
  unfold getAttrByItsOwn hookBefore
  refine wpAny_bind ?_
  rw [if_pos (show onTheHeap (Value.ref D) = true from rfl)]
  refine hook.at (wpAny_bind (wpAny_attempt (wpAny_holding ?_)))
  unfold callGetattribute
  rw [if_neg (show ¬ (false && onTheHeap (Value.builtin "BaseException.__getattribute__")) = true from Bool.false_ne_true)]
  unfold boundAndCalled
  rw [F.excAttr_ValueError.ga.bind (.ref x)]
  refine wpAny_bind (wpAny_pure ?_)
  show wpAny _ _ (call (.builtin "BaseException.__getattribute__") [.ref x, .str "__class__" tk]) _ _ _
  refine wpAny_call (codeAny_call_builtin F.excAttr_ValueError.ga.plain F.entry_bexc_ga (@check_slot (model prog w) _ _ ⟨hp, gs, dr, tk + 1, os⟩ "BaseException.__getattribute__" "BaseException" "__getattribute__" (.ref x) [.str "__class__" tk] [] _ (by decide +kernel) (by decide +kernel) over (F.args_bexc_ga (.ref x) (.str "__class__" tk)) ?_))
  unfold Builtin.«object.__getattribute__»
  refine wpAny_bind (wpAny_of_eq (a := ((Value.ref x : Value), [Value.str "__class__" tk])) (by first | rfl | (simp only [slotArgs]; rfl)) (wpAny_bind (wpAny_pure (wpAny_bind (isD.at (wpAny_bind (got.at ?_)))))))
  show wpAny _ _ (holding [Value.builtin "object.__class__"] (call (.builtin "getset_descriptor.__get__") [.builtin "object.__class__", .ref x, .ref D]) >>= ret) _ _ _
  refine wpAny_bind (wpAny_holding (wpAny_call (class_get (s := ⟨hp, gs, dr, tk + 1, os⟩) (ox := ox) (od := od) X J T.hm (wpAny_pure ?_))))
  show wpAny _ _ (handedOut (.ref D)) _ _ _
  rw [handedOut_of (v := .ref D) rfl]
  first
    | exact wpAny_pure (wpAny_pure done)
    | exact wpAny_pure done
    | exact wpAny_pure (wpAny_bind (wpAny_pure (wpAny_pure done)))
theorem kit_err (T : L2.ExcC K D) : KitX K (.ref x) (.ref D) (fun h => InstAt h x ox D od) := by
  obtain ⟨cd, hc, _⟩ := any_some T.hd
  unfold clsIn at hc
  split at hc
  · rename_i c' d' cd' sl' ho
    refine ⟨fun _ _ _ J => J.type, ?_, ?_, fun X J k => ask_class T X J k⟩
    · intro _ h X _ A' Q' E' s' k q
      unfold isType loadHead
      exact wpAny_bind (wpAny_loadPart (k _ _ (X _ _ ho)) (wpAny_pure q))
    · intro h tp dd its n sl X htp
      refine Bool.eq_false_iff.mpr fun q => ?_
      have e : D = tp := Value.ref.inj (beq_iff_eq.mp q)
      subst e
      have z := (X _ _ ho).symm.trans htp
      cases z
  · cases hc
end
end ND

namespace ND
open PySem PySem.Spec L2
open PyProof.Rows (envOfC)
/-- the classes nm of which known is true may be asked whether they are of the class c -/
def IsiTab (K : Kn) (M : Str → Str → Option Bool) : Prop := ∀ x y b, M x y = some b → ∃ C D, K.mg x = some (.ref C) ∧ K.mg y = some (.ref D) ∧ ExcC K.K C ∧ PySem.W.kitOne K.K (.ref C) (.ref D) = some b
/-- isinstance(e, c), e the caught error -/
def gIsE (M : Str → Str → Option Bool) (c : Str) (i : Nat) (er : Er) (a : Addr) (σ : List SV) (Q : D → Prop) : Prop := σ[i]? = some (.d (.opq (.ref a))) ∧ ∃ b, M er.nm c = some b ∧ Q (.bl b)
section
variable {X : Cx} {W : WT} {F0 H0 : Hp} {cls : Value} {d : Option Addr} {er : Er} {a : Addr} {oe : Obj} {pn : List (Addr × Obj)} {M : Str → Str → Option Bool} {x c : Str} {i : Nat} {pos p p2 p3 : Pos}
theorem ed_isE (at_ : ErAt X.kn W F0 H0 cls d er) (zc : Zc cls d oe) (fields : ∃ vs, oe.data = .fields vs) (T : IsiTab X.kn M) (hg : Gl X "isinstance") (hm : X.mg "isinstance" = none) (gc : Gl X c) (ndb : (c == ("__debug__" : Str)) = false)
    (he : PE (X.suite a ((a, oe) :: pn)) (.Name x p) (tVar i)) (hst : starEach [.Name x p, .Name c p2] X.env = (false, eval (.Name x p) X.env) :: starEach [.Name c p2] X.env := by rfl) (hst2 : starEach [.Name c p2] X.env = [(false, eval (.Name c p2) X.env)] := by rfl)
    (hpl : (backTo pos (starEach [.Name c p2] X.env)).any (·.1) = false := by rfl) :
    ED ⟨W, F0, H0⟩ (X.suite a ((a, oe) :: pn)) (.Call (.Name "isinstance" p3) [.Name x p, .Name c p2] [] pos) (gIsE M c i er a) :=
  ⟨⟨fun pins s σ H Q I ⟨σd, F, Qd, R, ⟨sl, b, hb, q⟩, k⟩ => by
    obtain ⟨C, D, gC, gD, ok, kit⟩ := T _ _ _ hb
    obtain ⟨eC, hf, hno⟩ := at_.rep
    have ec : cls = .ref C := Option.some.inj (eC.symm.trans gC)
    subst ec
    obtain ⟨w0, hs, rw0⟩ := R.dat sl
    cases rw0
    have nameC : PE (X.suite a ((a, oe) :: pn)) (.Name c p2) (tC (.ref D)) := pe_glob gc gD rfl ndb
    by_cases ne : er.fs = []
    · have hd0 : d = none := hno ne
      subst hd0
      have ans : CallR (X.suite a ((a, oe) :: pn)) (.builtin "isinstance") (fun us G P => us = [V.ref a, V.ref D] ∧ P (.bl b) G) := fun pins s σ G us ws P I vals ⟨eu, done⟩ => by
        subst eu
        cases vals with
        | cons r1 vals =>
          cases vals with
          | cons r2 vals =>
            cases vals
            cases r1
            cases r2
            obtain ⟨held, _⟩ := I.pin (a, oe) (List.mem_append_left _ List.mem_cons_self)
            obtain ⟨fv, hd⟩ := fields
            have J : PySem.W.InstAt s.heap a oe C none := ⟨held, zc.1, by unfold PySem.W.notCls; rw [hd] <;> rfl, by rw [zc.2]; trivial⟩
            exact PySem.W.kia_one (kit_err ok) I.kIn J kit (fun z => nomatch z) fun tk => ⟨.bl b, G, I.kept (t' := tk) fun _ _ z => z, rfl, done⟩
      exact (pe_callB ans hg hm nbIsi (pa_cons he (pa_cons nameC pa_nil hst2) hst) (by decide) (by decide) hst hpl).run pins s σ H Q I ⟨_, hs, rfl, k _ q F H _ (Grow.refl R.ex) R.deck (.bl b)⟩
    · obtain ⟨dx, vs, rfl, at_dx, rf⟩ := hf ne
      have ans : CallR (X.suite a ((a, oe) :: pn)) (.builtin "isinstance") (fun us G P => us = [V.ref a, V.ref D] ∧ G dx = some (.xd vs) ∧ P (.bl b) G) := fun pins s σ G us ws P I vals ⟨eu, st, done⟩ => by
        subst eu
        cases vals with
        | cons r1 vals =>
          cases vals with
          | cons r2 vals =>
            cases vals
            cases r1
            cases r2
            obtain ⟨held, _⟩ := I.pin (a, oe) (List.mem_append_left _ List.mem_cons_self)
            obtain ⟨fv, hd⟩ := fields
            obtain ⟨mA, hns, hr⟩ := (show ObjOk X.prog X.w G s.heap dx (.xd vs) from I.hok dx _ st)
            obtain ⟨od, ho, _⟩ := lookIn_ns hns
            have J : PySem.W.InstAt s.heap a oe C (some od) := ⟨held, zc.1, by unfold PySem.W.notCls; rw [hd] <;> rfl, by rw [zc.2]; exact ho⟩
            exact PySem.W.kia_one (kit_err ok) I.kIn J kit (fun z => nomatch z) fun tk => ⟨.bl b, G, I.kept (t' := tk) fun _ _ z => z, rfl, done⟩
      have st : H dx = some (.xd vs) := R.base.hh dx _ at_dx (xd_notW at_.dk at_dx) (by intro _ z; cases z)
      exact (pe_callB ans hg hm nbIsi (pa_cons he (pa_cons nameC pa_nil hst2) hst) (by decide) (by decide) hst hpl).run pins s σ H Q I ⟨_, hs, rfl, st, k _ q F H _ (Grow.refl R.ex) R.deck (.bl b)⟩⟩⟩
end
end ND

/-! ND16: more built-in functions: sum, all, any, tuple, list, sorted, str -/
namespace ND
open PySem PySem.Spec L2
open PyProof.Rows (envOfC)
section
variable {prog : Program} {w : World} {A : Around} {E : Value → Shared → Prop} {s : Shared} {l : Addr} {its : List Value} {ns : List Int} {Q : Value → Shared → Prop}
theorem sum_tup (quiet : A.handled = none) (isT : s.heap.IsTuple l its.toArray) (areInts : PyProof.Rows.IntsAre its ns)
    (done : ∀ h' tk t', (∀ b o, s.heap.get? b = some o → h'.get? b = some o) → Q (.int ns.sum t') { s with heap := h', toks := tk }) : wpAny (model prog w) A (call (.builtin "sum") [.ref l]) Q E s := by
  obtain ⟨xs, e⟩ := areInts.allInts.items
  have nums : numsOf (intItems xs).toList = ns := by rw [← e]; exact areInts.numsOf
  rw [nums_intItems] at nums
  rw [e] at isT
  have small : l < s.heap.objs.size := by
    obtain ⟨_, at_l, _⟩ := isT
    exact Heap.lt_size at_l
  refine call_sum_walkG (wpAny_pyIter_tuple isT ?_)
  refine ⟨s.heap.objs.size, [s.heap.objs.size, l], [s.heap.objs.size], _, _, _, numAt xs, rfl, Walks.tuple (A := A.in1) quiet _ l (Nat.ne_of_lt small) (intItems xs), ⟨⟨_, Heap.get?_push_size _ rfl, rfl, rfl⟩, isT.push _⟩, fun b hb => ?_, (fun _ _ => intItems_at), fun h' tk t' hk => ?_⟩
  · show b < (s.heap.push _).objs.size
    rw [Heap.size_push]
    rcases List.mem_cons.mp hb with rfl | hb
    · exact Nat.lt_succ_self _
    · rw [List.mem_singleton.mp hb]
      exact Nat.lt_succ_of_lt small
  · have z := done h' tk t' fun b o eb => hk b o (fun m => absurd (Heap.lt_size eb) (List.mem_singleton.mp m ▸ Nat.lt_irrefl _)) (Heap.get?_push_of_some _ eb)
    have total : preSum (numAt xs) (intItems xs).size = ns.sum := by
      rw [preSum_eq, List.take_of_length_le (by simp [intItems]), nums]
    rw [total]
    exact z
end
section
variable {B : Bs} {X : Cx}
theorem cr_sumT (hc : X.calm = true) : CallR X (.builtin "sum") (fun vs H Q => ∃ (a : Addr) (ns : List Int), vs = [V.ref a] ∧ SqT X.K H a (ns.map V.int) ∧ Q (.int ns.sum) H) := fun pins s σ H vs us Q I r ⟨a, ns, ev, st, q⟩ => by
  subst ev
  obtain ⟨its, rv, isT, _⟩ := I.tuple st
  rw [Vals.ref1 r]
  exact sum_tup (I.ok.hd hc) (show s.heap.IsTuple _ its.toArray from isT) rv.ints fun h' tk t' kept => ⟨.int _, H, I.kept kept, ⟨_, rfl⟩, q⟩
/-- the integers of a list of data -/
def intsOf : List D → Option (List Int)
  | [] => some []
  | .int i :: r => (intsOf r).map (i :: ·)
  | _ :: _ => none
theorem intsOf_map : ∀ {ds : List D} {ns : List Int}, intsOf ds = some ns → ds = ns.map D.int
  | [], ns, h => by
    cases h
    rfl
  | .int i :: r, ns, h => by
    simp only [intsOf, Option.map_eq_some_iff] at h
    obtain ⟨m, h1, rfl⟩ := h
    rw [intsOf_map h1]
    rfl
@[simp] theorem intsOf_ints : ∀ ns : List Int, intsOf (ns.map D.int) = some ns
  | [] => rfl
  | n :: ns => by simp [intsOf, intsOf_ints ns]
theorem reps_of_ints {K : Kn} {F : Hp} : ∀ {vs : List V} {ns : List Int}, Reps K F vs (ns.map D.int) → vs = ns.map V.int
  | _, [], .nil => rfl
  | _, n :: ns, .cons (.int _) t => by rw [List.map_cons, reps_of_ints t]
def sumD : List D → (D → Prop) → Prop
  | [.lst xs], Q => ∃ ns, intsOf xs = some ns ∧ Q (.int ns.sum)
  | [.tup xs], Q => ∃ ns, intsOf xs = some ns ∧ Q (.int ns.sum)
  | _, _ => False
theorem c_sum (hc : X.calm = true) : CallR X (.builtin "sum") (LCa B X.kn sumD) := callR_by fun vs H Q ⟨F, ds, Qd, e, dk, r, q, k⟩ => by
  unfold sumD at q
  split at q
  · obtain ⟨v, rfl, r1⟩ := rb1 r
    obtain ⟨ns, h1, h2⟩ := q
    obtain ⟨a, us, rfl, st, rs⟩ := r1.lst e
    rw [intsOf_map h1] at rs
    rw [reps_of_ints rs] at st
    exact ⟨_, cr_sum hc, a, ns, rfl, SqL.of st, k.here e dk h2 (.int _)⟩
  · obtain ⟨v, rfl, r1⟩ := rb1 r
    obtain ⟨ns, h1, h2⟩ := q
    obtain ⟨a, us, rfl, _, st, rs⟩ := r1.tup e
    rw [intsOf_map h1] at rs
    rw [reps_of_ints rs] at st
    exact ⟨_, cr_sumT hc, a, ns, rfl, st, k.here e dk h2 (.int _)⟩
  · exact q.elim
/-- the bools of a list of data -/
def blsOf : List D → Option (List Bool)
  | [] => some []
  | .bl i :: r => (blsOf r).map (i :: ·)
  | _ :: _ => none
theorem blsOf_map : ∀ {ds : List D} {ns : List Bool}, blsOf ds = some ns → ds = ns.map D.bl
  | [], ns, h => by
    cases h
    rfl
  | .bl i :: r, ns, h => by
    simp only [blsOf, Option.map_eq_some_iff] at h
    obtain ⟨m, h1, rfl⟩ := h
    rw [blsOf_map h1]
    rfl
@[simp] theorem blsOf_bls : ∀ ns : List Bool, blsOf (ns.map D.bl) = some ns
  | [] => rfl
  | n :: ns => by simp [blsOf, blsOf_bls ns]
theorem reps_of_bls {K : Kn} {F : Hp} : ∀ {vs : List V} {ns : List Bool}, Reps K F vs (ns.map D.bl) → vs = ns.map V.bl
  | _, [], .nil => rfl
  | _, n :: ns, .cons (.bl _) t => by rw [List.map_cons, reps_of_bls t]
def allD : List D → (D → Prop) → Prop
  | [.lst xs], Q => ∃ bs, blsOf xs = some bs ∧ Q (.bl (bs.all id))
  | _, _ => False
def anyD : List D → (D → Prop) → Prop
  | [.lst xs], Q => ∃ bs, blsOf xs = some bs ∧ Q (.bl (bs.any id))
  | _, _ => False
theorem c_all (hc : X.calm = true) : CallR X (.builtin "all") (LCa B X.kn allD) := callR_by fun vs H Q ⟨F, ds, Qd, e, dk, r, q, k⟩ => by
  unfold allD at q
  split at q
  · obtain ⟨v, rfl, r1⟩ := rb1 r
    obtain ⟨bs, h1, h2⟩ := q
    obtain ⟨a, us, rfl, st, rs⟩ := r1.lst e
    rw [blsOf_map h1] at rs
    rw [reps_of_bls rs] at st
    exact ⟨_, cr_all hc, a, bs, rfl, SqL.of st, k.here e dk h2 (.bl _)⟩
  · exact q.elim
theorem c_any (hc : X.calm = true) : CallR X (.builtin "any") (LCa B X.kn anyD) := callR_by fun vs H Q ⟨F, ds, Qd, e, dk, r, q, k⟩ => by
  unfold anyD at q
  split at q
  · obtain ⟨v, rfl, r1⟩ := rb1 r
    obtain ⟨bs, h1, h2⟩ := q
    obtain ⟨a, us, rfl, st, rs⟩ := r1.lst e
    rw [blsOf_map h1] at rs
    rw [reps_of_bls rs] at st
    exact ⟨_, cr_any hc, a, bs, rfl, SqL.of st, k.here e dk h2 (.bl _)⟩
  · exact q.elim
def tupleD : List D → (D → Prop) → Prop
  | [.lst xs], Q => Q (.tup xs)
  | [.tup xs], Q => Q (.tup xs)
  | _, _ => False
theorem c_tuple : CallR X (.type "tuple") (LCa B X.kn tupleD) := callR_by fun vs H Q ⟨F, ds, Qd, e, dk, r, q, k⟩ => by
  unfold tupleD at q
  split at q
  · obtain ⟨v, rfl, r1⟩ := rb1 r
    obtain ⟨a, us, rfl, st, rs⟩ := r1.lst e
    exact ⟨_, call_tuple_of, a, us, rfl, .inl ⟨SqL.of st, fun p hp => k.frz e dk q hp (.tup (SqT.of upd_same) (rs.mono (same_new (e.free hp))))⟩⟩
  · obtain ⟨v, rfl, r1⟩ := rb1 r
    obtain ⟨a, us, rfl, sf, st, rs⟩ := r1.tup e
    exact ⟨_, call_tuple_of, a, us, rfl, .inr ⟨st, k.here e dk q (.tup sf rs)⟩⟩
  · exact q.elim
/-- a built-in function that gives a new list -/
def LCf (B : Bs) (K : Kn) (g : List D → (List D → Prop) → Prop) : List V → Hp → VK → Prop := fun vs H Q => ∃ F ds Qd, Same F H ∧ DeckIn B.W F H ∧ RepBs B.W K F H vs ds ∧ g ds Qd ∧ FinF B K F H Qd Q
@[simp] def gBltF (g : List D → (List D → Prop) → Prop) (fs : GA) (σ : List SV) (Q : List D → Prop) : Prop := fs σ fun ds => g ds Q
theorem tcbF_of {s : L2.St} {H : Hp} {Q : VK} {g : List D → (List D → Prop) → Prop} {fs : GA} (h : LF B X.kn (gBltF g fs) s H Q) : tCB (LCf B X.kn g) (LAB B X.kn fs) s H Q := by
  obtain ⟨σ, F, Qd, R, q, k⟩ := h
  exact ⟨σ, F, _, R, q, fun ds qd F1 H1 vs g1 d1 r1 => ⟨F1, ds, Qd, g1.fh, d1, r1, qd, k.more g1⟩⟩
def listD : List D → (List D → Prop) → Prop
  | [.lst xs], Q => Q xs
  | [.tup xs], Q => Q xs
  | _, _ => False
theorem c_list : CallR X (.type "list") (LCf B X.kn listD) := callR_by fun vs H Q ⟨F, ds, Qd, e, dk, r, q, k⟩ => by
  unfold listD at q
  split at q
  · obtain ⟨v, rfl, r1⟩ := rb1 r
    obtain ⟨a, us, rfl, st, rs⟩ := r1.lst e
    exact ⟨_, call_list_of, a, us, rfl, .inl (SqL.of st), fun p hp => k.laid e dk q hp rs⟩
  · obtain ⟨v, rfl, r1⟩ := rb1 r
    obtain ⟨a, us, rfl, _, st, rs⟩ := r1.tup e
    exact ⟨_, call_list_of, a, us, rfl, .inr st, fun p hp => k.laid e dk q hp rs⟩
  · exact q.elim
variable {x : Str} {p pos : Pos} {e : Expr} {es : List Expr} {fs : GA} {T id : String} {g : List D → (List D → Prop) → Prop}
theorem fd_callTy (hc : CallR X (.type T) (LCf B X.kn g)) (hg : Gl X x) (hm : X.mg x = none) (hv : bootBuiltins x = some (.type T)) (ha : ABD B X (e :: es) fs) (hn : x ≠ "__name__" := by decide) (hdb : (x == ("__debug__" : Str)) = false := by decide)
    (he : starEach (e :: es) X.env = (false, eval e X.env) :: starEach es X.env := by rfl) (hpl : (backTo pos (starEach es X.env)).any (·.1) = false := by rfl) : FD B X (.Call (.Name x p) (e :: es) [] pos) (gBltF g fs) :=
  ⟨pe_imp (pe_callTy hc hg hm hv ha.run hn hdb he hpl) fun s H Q h => tcbF_of h⟩
theorem fd_callB (hc : CallR X (.builtin id) (LCf B X.kn g)) (hg : Gl X x) (hm : X.mg x = none) (hv : bootBuiltins x = some (.builtin id)) (ha : ABD B X (e :: es) fs) (hn : x ≠ "__name__" := by decide) (hdb : (x == ("__debug__" : Str)) = false := by decide)
    (he : starEach (e :: es) X.env = (false, eval e X.env) :: starEach es X.env := by rfl) (hpl : (backTo pos (starEach es X.env)).any (·.1) = false := by rfl) : FD B X (.Call (.Name x p) (e :: es) [] pos) (gBltF g fs) :=
  ⟨pe_imp (pe_callB hc hg hm hv ha.run hn hdb he hpl) fun s H Q h => tcbF_of h⟩
/-- a division that stays with the plain way: the divisor short, or the dividend short -/
def DivPl (i j : Int) : Prop := j.natAbs.log2 < 9000 ∨ i.natAbs.log2 < 13500
theorem DivPl.no {i j : Int} (h : DivPl i j) : Builtin.divisionGoesByPylong i j = false := by
  rcases h with h | h
  · exact PyProof.noPylong_of_log2 h
  · show (decide ((if j == 0 then 0 else j.natAbs.log2 / 30 + 1) > 300) && decide ((if i == 0 then 0 else i.natAbs.log2 / 30 + 1) > (if j == 0 then 0 else j.natAbs.log2 / 30 + 1) + 150)) = false
    have k : (if i == 0 then 0 else i.natAbs.log2 / 30 + 1) ≤ 450 := by
      split
      · omega
      · omega
    generalize (if j == 0 then 0 else j.natAbs.log2 / 30 + 1) = y
    by_cases hy : y > 300
    · rw [decide_eq_false (fun z => by omega : ¬ _ > y + 150), Bool.and_false]
    · rw [decide_eq_false hy, Bool.false_and]
/-- floor division by any divisor but zero -/
def fdivA : D → D → (D → Prop) → Prop
  | .int i, .int j, Q => j ≠ 0 ∧ DivPl i j ∧ Q (.int (i.fdiv j))
  | _, _, _ => False
@[simp] theorem fdivA_i (i j : Int) (Q : D → Prop) : fdivA (.int i) (.int j) Q = (j ≠ 0 ∧ DivPl i j ∧ Q (.int (i.fdiv j))) := rfl
theorem op_fdivA : OpR X (binaryOp .FloorDiv) (rI (fun i j => j ≠ 0 ∧ DivPl i j) fun i j => .int (i.fdiv j)) := opI fun i j _ _ _ _ _ hc q => PyProof.Rows.floordiv_int hc.1 q (.inl hc.2.no)
theorem o_fdivA : OpR X (binaryOp .FloorDiv) (LO2 B X.kn fdivA) := opR_by fun v u H Q ⟨F, x, y, Qd, e, dk, r1, r2, q, k⟩ => by
  unfold fdivA at q
  split at q
  · exact ⟨_, op_fdivA, _, _, r1.int, r2.int, ⟨q.1, q.2.1⟩, k.here e dk q.2.2 (.int _)⟩
  · exact q.elim
/-- an error's class nm, at C, without an __init__ of its own -/
structure Er0 (K : PySem.W.Frag) (mg : Str → Option Value) (nm : Str) (C : Addr) : Prop where
  gC : mg nm = some (.ref C)
  ini : PySem.W.excIn K C exT "Exception.__new__" = true
  kC : PySem.W.keepIn K (.ref C) = true
  exC : PySem.W.subIn K (.ref C) (.type "BaseException") = some true
  tyC : PySem.W.typeIn K (.ref C) = some (.type "type")
theorem pmk_er0 {nm : Str} {C : Addr} {p pos : Pos} (T : Er0 X.K X.mg nm C) (hg : Gl X nm) (ndb : (nm == ("__debug__" : Str)) = false) : PMk X (.Call (.Name nm p) [] [] pos) (fun _ H Q => Q (.ref C) none H) :=
  fun pins s σ H Q I h => wpAny_Call_Name_kw (ld_glob I hg T.gC (PySem.W.callWith_K0 I.kIn T.kC (by
    obtain ⟨bm, N, nm, qn, bs, hdct, sn, sub, ab, col, dd, k0, k1, k2, k3, k5, mN, hC, hN, hni, tail⟩ := exc_obj I.kIn T.ini
    exact wpAny_call_exc_subT F.excBase_Exception tail hC hN hni (fun h' e hm => mk_of I hm (raises_own T.exC T.tyC) h (I.hok.gone hm.new)) (Nat.zero_le _))) ndb)
/-- raise nm() -/
@[simp] def gRaise0 (nm : Str) (R : Er → Prop) (_ : Ed) (_ : List SV) : Prop := R ⟨nm, []⟩
theorem sd_raise0 {nm : Str} {C : Addr} {p pos pos2 : Pos} {R : Er → Prop} {E : XK} (hc : X.calm = true) (T : Er0 X.K X.mg nm C) (tk : Takes X (fun c o _ H => E c o H)) (hE : FinE B.W X.kn B.F B.H R E) (hg : Gl X nm := by rfl) (ndb : (nm == ("__debug__" : Str)) = false := by decide) :
    SD B X (.Raise (some (.Call (.Name nm p) [] [] pos)) none pos2) (gRaise0 nm R) :=
  ⟨ps_imp (ps_raise hc tk (pmk_er0 T hg ndb)) fun Dn s H ⟨σ, F, Ed, Rl, q, kk⟩ => hE _ q F H (.ref C) none Rl.base Rl.deck ⟨T.gC, fun z => absurd rfl z, fun _ => rfl⟩⟩
/-- sorted of integers -/
def sortedD : List D → (List D → Prop) → Prop
  | [.lst xs], Q => ∃ ns, intsOf xs = some ns ∧ ∀ ms : List Int, ms.Perm ns → ms.Pairwise (· ≤ ·) → Q (ms.map D.int)
  | _, _ => False
end
end ND

/-! ND17: targets within targets; a statement t = e for any such target -/
namespace ND
open PySem PySem.Spec L2
open PyProof.Rows (envOfC)
variable {B : Bs} {X : Cx} {e t : Expr} {ts : List Expr} {pos : Pos} {fa : GE}
abbrev GGs := List D → List SV → (List SV → Prop) → Prop
structure GDs (B : Bs) (X : Cx) (ts : List Expr) (n : Nat) (gt : GGs) : Prop where
  run : ∃ u, PGs X ts u ∧ ∀ ds vs σ s F H (Qd : List SV → Prop) (Q : L2.St → Hp → Prop), Rel B X.kn σ s F H → Reps X.kn F vs ds → ds.length = n → gt ds σ Qd → (∀ σ' s', Rel B X.kn σ' s' F H → Qd σ' → Q s' H) → u vs s H Q
@[simp] def ggNil (_ : List D) (σ : List SV) (Q : List SV → Prop) : Prop := Q σ
@[simp] def ggCons (g : GG) (h : GGs) : List D → List SV → (List SV → Prop) → Prop
  | d :: ds, σ, Q => g d σ fun σ' => h ds σ' Q
  | [], _, _ => False
theorem gds_nil : GDs B X [] 0 ggNil := ⟨_, pgs_nil, fun ds vs σ s F H Qd Q R r hl q k => by
  cases ds with
  | nil => cases r with | nil => exact ⟨rfl, k _ _ R q⟩
  | cons _ _ => cases hl⟩
theorem gds_cons {n : Nat} {g : GG} {h : GGs} (h1 : GD B X t g) (h2 : GDs B X ts n h) (hs : (assignEach (t :: ts) X.env).map (·.2) = assign t X.env :: (assignEach ts X.env).map (·.2) := by rfl) : GDs B X (t :: ts) (n + 1) (ggCons g h) := by
  obtain ⟨u1, p1, w1⟩ := h1.run
  obtain ⟨u2, p2, w2⟩ := h2.run
  refine ⟨_, pgs_cons p1 p2 hs, fun ds vs σ s F H Qd Q R r hl q k => ?_⟩
  cases r with
  | nil => cases hl
  | cons r1 r2 => exact ⟨_, _, rfl, w1 _ _ _ _ _ _ _ _ R r1 q fun σ' s' R' q' => w2 _ _ _ _ _ _ _ _ R' r2 (by simpa using hl) q' k⟩
@[simp] def ggT (n : Nat) (h : GGs) (d : D) (σ : List SV) (Q : List SV → Prop) : Prop := unT n d fun ds => h ds σ Q
theorem gd_tupG {n : Nat} {h : GGs} {kt : Nat} (hc : X.calm = true) (hn : GDs B X ts n h) (hl : (assignEach ts X.env).length = n := by rfl) (hst : (assignEach ts X.env).findIdx? (·.1) = none := by rfl) : GD B X (.Tuple ts kt pos) (ggT n h) := by
  obtain ⟨u, p, w⟩ := hn.run
  refine ⟨_, pg_tup hc p hl hst, fun d v σ s F H Qd Q R r ⟨ds, e, hl, q⟩ k => ?_⟩
  subst e
  cases r with
  | tup h r => exact ⟨_, _, rfl, same_t R.ex h, by rw [r.length]; exact hl, w _ _ _ _ _ _ _ _ R r hl q k⟩
@[simp] def gSetG (gt : GG) (fa : GE) (E : Ed) (σ : List SV) : Prop := fa σ fun d => gt d σ E.nx
theorem sd_setG {gt : GG} (ht : GD B X t gt) (ha : ED B X e fa) (hs : swapsWithSole [t] e pos.line X.env = pure false := by rfl) (hw : swappedStores [t] e X.env = pure none := by rfl)
    (h1 : (assignEach [t] X.env).map (·.2) = [assign t X.env] := by rfl) : SD B X (.Assign [t] e pos) (gSetG gt fa) := by
  obtain ⟨u, p, w⟩ := ht.run
  exact ⟨ps_imp (ps_asg ha.run p hs hw h1) fun Dn s H ⟨σ, F, E, R, q, k⟩ => ⟨σ, F, _, R, q, fun d qd F' H' v g dk r => w _ _ _ _ _ _ _ _ (R.grow g dk) r qd fun σ' s' R' q' => k.nx _ _ F' H' g.ff R' q'⟩⟩
/-! classes: what an except clause asks -/
theorem clsIn_exc {K : PySem.W.Frag} {C : Addr} {bm : List Value} {id : String} (q : PySem.W.excIn K C bm id = true) : (PySem.W.clsIn K C).isSome = true := by
  unfold PySem.W.excIn at q
  split at q
  · rename_i h
    unfold PySem.W.clsIn
    rw [h]
    rfl
  · cases q
theorem exm_of {K : PySem.W.Frag} {C D : Addr} {b : Bool} (hc : (PySem.W.clsIn K D).isSome = true) (hs : PySem.W.subIn K (.ref D) (.type "BaseException") = some true) (ht : PySem.W.typeIn K (.ref D) = some (.type "type")) (hr : PySem.W.subIn K (.ref C) (.ref D) = some b) : PySem.W.exmOne K (.ref C) (.ref D) = some b := by
  have h1 : PySem.W.kitCls K (.ref C) (.ref D) = some b := by
    show (if ((PySem.W.clsIn K D).isSome && PySem.W.typeIn K (.ref D) == some (.type "type")) = true then PySem.W.subIn K (.ref C) (.ref D) else none) = _
    have e : ((PySem.W.clsIn K D).isSome && PySem.W.typeIn K (.ref D) == some (.type "type")) = true := by rw [hc, ht, Bool.true_and, beq_iff_eq]
    rw [if_pos e]
    exact hr
  unfold PySem.W.exmOne
  rw [if_pos (by rw [hs]; exact beq_self_eq_true _)]
  exact h1
end ND

/-! ND18: repr of integers of up to 4300 digits -/
namespace ND
open PySem PySem.Spec L2
open PyProof.Rows (envOfC)
section
variable {prog : Program} {w : World} {A : Around} {E : Value → Shared → Prop} {s : Shared} {i : Int} {t : Tok} {h₀ : Heap}
/-- an integer's own __repr__ -/
theorem big_repr {Q : Value → Shared → Prop} (hn : s.heap.NoDigits) (hb : i.natAbs < 10 ^ 4300) (q : Q (.str (toString i) s.toks) { s with toks := s.toks + 1 }) :
    wpAny (model prog w) A (call (.builtin "int.__repr__") [.int i t]) Q E s := by
  refine wpAny_call_entry F.slot_int_repr (typeIs_int s i t) F.entry_int_repr ?_ (F.args_int_repr_1 _)
  unfold Builtin.«int.__repr__»
  show wpAny _ _ (do let r ← Builtin.overDigitLimit? i; _) _ _ s
  refine wpAny_bind (PyProof.Rows.overDigitLimit_any hn (fun hl => wpAny_bind (wpAny_mkStr (wpAny_pure ⟨_, rfl, q⟩) (int_text_fits10 hl))) fun hg => ?_)
  exact absurd hb (Nat.not_lt.mpr hg)
mutual
/-- data whose repr can be told: integers below 10^4300 -/
def bigOk : PyData → Bool
  | .int i => decide (i.natAbs < 10 ^ 4300)
  | .list xs | .tuple xs => bigAll xs
  | .dict kvs => bigKv kvs
  | _ => true
def bigAll : List PyData → Bool
  | [] => true
  | d :: ds => bigOk d && bigAll ds
def bigKv : List (PyData × PyData) → Bool
  | [] => true
  | (k, d) :: ds => bigOk k && bigOk d && bigKv ds
end
theorem bigKv_split : ∀ kvs : List (PyData × PyData), bigKv kvs = true → bigAll (kvs.map (·.1)) = true ∧ bigAll (kvs.map (·.2)) = true
  | [], _ => ⟨rfl, rfl⟩
  | (k, d) :: r, h => by
    simp only [bigKv, Bool.and_eq_true] at h
    obtain ⟨h1, h2⟩ := bigKv_split r h.2
    simp only [List.map_cons, bigAll, Bool.and_eq_true]
    exact ⟨⟨h.1.1, h1⟩, h.1.2, h2⟩
/-- no dict among as is sys.modules -/
def SafeD (h : Heap) (as : List Addr) : Prop := ∀ a ∈ as, ∀ (o : Obj) (es : Array DictEntry) (n : Nat), h.get? a = some o → o.data = .dict es n → (a == sysModules) = false
theorem SafeD.sub {h : Heap} {as bs : List Addr} (s : SafeD h as) (e : ∀ a ∈ bs, a ∈ as) : SafeD h bs := fun a m => s a (e a m)
theorem big_one (hn : h₀.NoDigits) (hb : i.natAbs < 10 ^ 4300) (as : List Addr) (n : Nat) : ReprK prog w as h₀ n (.int i t) (toString i) := fun base hz A g E s Q hg _ hu hk q => by
  have hz' : base ≤ sizeLine := by omega
  rw [pyReprUnder_leaf (v := .int i t) hz' (fun _ e => nomatch e)]
  unfold pyRepr
  exact wpAny_bind (wpAny_pyReprObj_slot (by omega) (typeIs_int s i t) F.slot_int_repr.toG (big_repr (hn.keeps hk) hb ⟨_, _, rfl, wpAny_pure (q s.heap _ fun _ _ e => e)⟩))
mutual
theorem big_reads (hn : h₀.NoDigits) : ∀ {v : Value} {d : PyData} {as : List Addr}, Reads h₀ v d as → SafeD h₀ as → bigOk d = true → d.shown.length ≤ sizeLine → ∃ bs, ReadAtMost h₀ d.depth bs ∧ ReprK prog w bs h₀ d.depth v d.shown
  | _, _, _, .int i t, _, o, _ => ⟨[], nofun, by simp only [PyData.shown]; exact big_one hn (by simp only [bigOk] at o; exact of_decide_eq_true o) _ _⟩
  | _, _, _, .none, _, _, z => ReprK.of_reads .none rfl (fun e => by simp [PyData.hasDict] at e) z
  | _, _, _, .bool b, _, _, z => ReprK.of_reads (.bool b) rfl (fun e => by simp [PyData.hasDict] at e) z
  | _, _, _, .str x t, _, _, z => ReprK.of_reads (.str x t) rfl (fun e => by simp [PyData.hasDict] at e) z
  | _, _, _, .dict (a := a) (es := es) (kvs := kvs) g1 g2 g3 g4 g5, sf, o, z => by
    have z1 : (dictText (PyData.shownKv kvs)).length ≤ sizeLine := by simpa only [PyData.shown] using z
    obtain ⟨o1, o2⟩ := bigKv_split kvs (by simpa only [bigOk] using o)
    obtain ⟨b1, l1, k1⟩ := bigs_reads hn g4 (sf.sub fun _ m => List.mem_cons_of_mem _ (List.mem_append_left _ m)) o1 fun t m => by
      obtain ⟨p, mp, lp⟩ := PyData.shownKv_key_le kvs t m
      exact Nat.le_trans lp (Nat.le_trans (dictText_mem_le mp) z1)
    obtain ⟨b2, l2, k2⟩ := bigs_reads hn g5 (sf.sub fun _ m => List.mem_cons_of_mem _ (List.mem_append_right _ m)) o2 fun t m => by
      obtain ⟨p, mp, lp⟩ := PyData.shownKv_val_le kvs t m
      exact Nat.le_trans lp (Nat.le_trans (dictText_mem_le mp) z1)
    have rd := Reads.dict g1 g2 g3 g4 g5
    have low : ReadAtMost h₀ (PyData.depthKv kvs) (b1 ++ b2) := (l1.mono (PyData.depthAll_keys_le kvs)).append (l2.mono (PyData.depthAll_vals_le kvs))
    refine ⟨_ :: (b1 ++ b2), .cons rd (by simp only [PyData.depth]; omega) low, ?_⟩
    simp only [PyData.depth, PyData.shown, PyData.shownKv_eq]
    exact .dict g1 g2 g3 (sf a (List.mem_append_left _ List.mem_cons_self) _ _ _ g1 g3) (not_mem_of_deeper rd (by simp only [PyData.depth]; omega) low)
      (.of_two es.toList _ _ (k1.more_le (fun _ => List.mem_append_left _) (PyData.depthAll_keys_le kvs)) (k2.more_le (fun _ => List.mem_append_right _) (PyData.depthAll_vals_le kvs)))
  | _, _, _, .tuple (xs := xs) g1 g2 g3 g4, sf, o, z => by
    have z1 : (tupleText (PyData.shownAll xs)).length ≤ sizeLine := by simpa only [PyData.shown] using z
    obtain ⟨bs, le, ks⟩ := bigs_reads hn g4 sf (by simpa [bigOk] using o) fun t m => Nat.le_trans (tupleText_mem_le m) z1
    have rd := Reads.tuple g1 g2 g3 g4
    refine ⟨_ :: bs, .cons rd (by simp only [PyData.depth]; omega) le, ?_⟩
    simp only [PyData.depth, PyData.shown]
    exact ReprK.tuple g1 g2 g3 (not_mem_of_deeper rd (by simp only [PyData.depth]; omega) le) ks
  | _, _, _, .list (vs := vs) (xs := xs) g1 g2 g3 g4, sf, o, z => by
    have z1 : (listText (PyData.shownAll xs)).length ≤ sizeLine := by simpa only [PyData.shown] using z
    obtain ⟨bs, le, ks⟩ := bigs_reads hn g4 (sf.sub fun _ => List.mem_cons_of_mem _) (by simpa [bigOk] using o) fun t m => Nat.le_trans (listText_mem_le m) z1
    have rd := Reads.list g1 g2 g3 g4
    refine ⟨_ :: bs, .cons rd (by simp only [PyData.depth]; omega) le, ?_⟩
    simp only [PyData.depth, PyData.shown]
    have nm := not_mem_of_deeper rd (by simp only [PyData.depth]; omega) le
    rcases vs with ⟨_ | ⟨y, ys⟩⟩
    · cases (show ReadsAll h₀ [] xs _ from g4)
      simp only [PyData.shownAll, listText_nil]
      exact .listEmpty g1 g2 g3
    · exact .list g1 g2 g3 nm (by simpa using ks.length_eq) fun j y e => ks.item j y (by simpa using e)
theorem bigs_reads (hn : h₀.NoDigits) : ∀ {vs : List Value} {ds : List PyData} {as : List Addr}, ReadsAll h₀ vs ds as → SafeD h₀ as → bigAll ds = true → (∀ t ∈ PyData.shownAll ds, t.length ≤ sizeLine) →
    ∃ bs, ReadAtMost h₀ (PyData.depthAll ds) bs ∧ ReprAllK prog w bs h₀ (PyData.depthAll ds) vs (PyData.shownAll ds)
  | _, _, _, .nil, _, _, _ => ⟨[], nofun, by simp only [PyData.shownAll]; exact .nil⟩
  | _, _, _, .cons (d := d) (ds := ds) r rs, sf, o, z => by
    simp only [bigAll, Bool.and_eq_true] at o
    simp only [PyData.shownAll, List.mem_cons, forall_eq_or_imp] at z
    obtain ⟨b1, l1, k1⟩ := big_reads hn r (sf.sub fun _ => List.mem_append_left _) o.1 z.1
    obtain ⟨b2, l2, k2⟩ := bigs_reads hn rs (sf.sub fun _ => List.mem_append_right _) o.2 z.2
    simp only [PyData.depthAll, PyData.shownAll]
    exact ⟨b1 ++ b2, (l1.mono (Nat.le_max_left _ _)).append (l2.mono (Nat.le_max_right _ _)),
      .cons ((k1.more fun b => List.mem_append_left _).level_le (Nat.le_max_left _ _)) (k2.more_le (fun b => List.mem_append_right _) (Nat.le_max_right _ _))⟩
end
def isDct : PyData → Bool
  | .dict _ => true
  | _ => false
/-- repr of a tuple or a list -/
theorem repr_big {a : Addr} {d : PyData} {as : List Addr} {Q : Value → Shared → Prop} (hn : s.heap.NoDigits) (r : Reads s.heap (.ref a) d as) (sf : SafeD s.heap as) (nd : isDct d = false) (o : bigOk d = true) (z : d.shown.length ≤ sizeLine) (hg : A.guards = some []) (hu : A.units + (d.depth + 1) < cLine)
    (q : ∀ h' u tk, (∀ b o, s.heap.get? b = some o → h'.get? b = some o) → Q (.str d.shown u) { s with heap := h', toks := tk }) : wpAny (model prog w) A (call (.builtin "repr") [.ref a]) Q E s := by
  have hk0 : ∀ b o, s.heap.get? b = some o → s.heap.get? b = some o := fun _ _ e => e
  cases r with
  | tuple g1 g2 g3 g4 =>
    rename_i ob vs n xs
    have z1 : (tupleText (PyData.shownAll xs)).length ≤ sizeLine := by simpa only [PyData.shown] using z
    obtain ⟨bs, le, ks⟩ := bigs_reads (prog := prog) (w := w) hn g4 sf (by simpa [bigOk] using o) fun t m => Nat.le_trans (tupleText_mem_le m) z1
    have nm := not_mem_of_deeper (.tuple g1 g2 g3 g4) (by simp only [PyData.depth]; omega) le
    simp only [PyData.depth] at hu
    simp only [PyData.shown] at q
    exact call_repr_slot (by omega) ⟨ob, g1, g2⟩ F.slot_tuple_repr (call_tuple_reprK g1 g2 g3 nm ks hg (fun b _ => Clear.nil b) (by show A.units + 1 + _ < cLine; omega) hk0 (fun h' u tk k => ⟨_, _, rfl, q h' u tk k⟩) z1)
  | list g1 g2 g3 g4 =>
    rename_i ob vs n xs bs₀
    have z1 : (listText (PyData.shownAll xs)).length ≤ sizeLine := by simpa only [PyData.shown] using z
    obtain ⟨bs, le, ks⟩ := bigs_reads (prog := prog) (w := w) hn g4 (sf.sub fun _ => List.mem_cons_of_mem _) (by simpa [bigOk] using o) fun t m => Nat.le_trans (listText_mem_le m) z1
    have nm := not_mem_of_deeper (.list g1 g2 g3 g4) (by simp only [PyData.depth]; omega) le
    simp only [PyData.depth] at hu
    simp only [PyData.shown] at q
    refine call_repr_slot (by omega) ⟨ob, g1, g2⟩ F.slot_list_repr.toG ?_
    rcases vs with ⟨_ | ⟨y, ys⟩⟩
    · cases (show ReadsAll s.heap [] xs _ from g4)
      simp only [PyData.shownAll, listText_nil] at q
      exact call_list_repr_empty ⟨ob, g1, g2⟩ g1 g3 ⟨_, _, rfl, q s.heap _ _ fun _ _ e => e⟩
    · exact call_list_reprK g1 g2 g3 nm (by simpa using ks.length_eq) (fun j y e => ks.item j y (by simpa using e)) hg (fun b _ => Clear.nil b) (by show A.units + 1 + _ < cLine; omega) hk0 (fun h' u tk k => ⟨_, _, rfl, q h' u tk k⟩) z1
  | dict => cases nd
end
section
variable {B : Bs} {X : Cx}
/-! data with dicts in it, no object within, at most n deep -/
mutual
def rp : Nat → D → Bool
  | _, .non => true
  | _, .bl _ => true
  | _, .int _ => true
  | _, .str x => PyData.strOk x
  | 0, .tup _ => false
  | 0, .lst _ => false
  | 0, .dic _ => false
  | n + 1, .tup xs => rps n xs
  | n + 1, .lst xs => rps n xs
  | n + 1, .dic xs => rpk n xs
  | _, .obj _ _ => false
  | _, .opq _ => false
def rps : Nat → List D → Bool
  | _, [] => true
  | n, x :: xs => rp n x && rps n xs
def rpk : Nat → List (Key × D) → Bool
  | _, [] => true
  | n, (.inl _, x) :: xs => rp n x && rpk n xs
  | n, (.inr k, x) :: xs => PyData.strOk k && rp n x && rpk n xs
end
mutual
theorem rp_depth : ∀ (n : Nat) (d : D), rp n d = true → (toPy d).depth ≤ n
  | n, .non, _ => by simp [toPy, PyData.depth]
  | n, .bl b, _ => by simp [toPy, PyData.depth]
  | n, .int b, _ => by simp [toPy, PyData.depth]
  | n, .str x, h => by simp [toPy, PyData.depth]
  | 0, .tup xs, h => by simp [rp] at h
  | 0, .lst xs, h => by simp [rp] at h
  | 0, .dic xs, h => by simp [rp] at h
  | n + 1, .tup xs, h => by
    have h2 := rps_depth n xs (by simpa only [rp] using h)
    simp only [toPy, PyData.depth]
    omega
  | n + 1, .lst xs, h => by
    have h2 := rps_depth n xs (by simpa only [rp] using h)
    simp only [toPy, PyData.depth]
    omega
  | n + 1, .dic xs, h => by
    have h2 := rpk_depth n xs (by simpa only [rp] using h)
    simp only [toPy, PyData.depth]
    omega
  | n, .obj _ _, h => by simp [rp] at h
  | n, .opq _, h => by simp [rp] at h
theorem rps_depth : ∀ (n : Nat) (d : List D), rps n d = true → PyData.depthAll (toPys d) ≤ n
  | n, [], _ => by simp [toPys, PyData.depthAll]
  | n, x :: xs, h => by
    simp only [rps, Bool.and_eq_true] at h
    have h1 := rp_depth n x h.1
    have h2 := rps_depth n xs h.2
    simp only [toPys, PyData.depthAll]
    omega
theorem rpk_depth : ∀ (n : Nat) (d : List (Key × D)), rpk n d = true → PyData.depthKv (toPyK d) ≤ n
  | n, [], _ => by simp [toPyK, PyData.depthKv]
  | n, (.inl k, x) :: xs, h => by
    simp only [rpk, Bool.and_eq_true] at h
    have h1 := rp_depth n x h.1
    have h2 := rpk_depth n xs h.2
    simp only [toPyK, PyData.depthKv, PyData.depth]
    omega
  | n, (.inr k, x) :: xs, h => by
    simp only [rpk, Bool.and_eq_true] at h
    have h1 := rp_depth n x h.1.2
    have h2 := rpk_depth n xs h.2
    simp only [toPyK, PyData.depthKv, PyData.depth]
    omega
end
theorem safe_seq {h : Heap} {a : Addr} {o : Obj} {vs : Array Value} {n : Nat} {as : List Addr} (ho : h.get? a = some o) (hd : o.data = .seq vs n) (s : SafeD h as) : SafeD h (a :: as) := fun b m ob es k e1 e2 => by
  rcases List.mem_cons.mp m with z | z
  · subst z
    rw [ho] at e1
    cases e1
    rw [hd] at e2
    cases e2
  · exact s b z ob es k e1 e2
theorem safe_app {h : Heap} {as bs : List Addr} (s : SafeD h as) (s2 : SafeD h bs) : SafeD h (as ++ bs) := fun b m => (List.mem_append.mp m).elim (s b) (s2 b)
theorem safe_nil {h : Heap} : SafeD h [] := fun _ m => (nomatch m)
section
variable {pins : List (Addr × Obj)} {σ : L2.St} {H F : Hp} {s : Shared}
mutual
theorem rep_reads (I : Inv X pins σ H s) (e : Same F H) : ∀ (n : Nat) (d : D) (v : V) (u : Value), rp n d = true → Rep X.kn F v d → RelV v u → ∃ as, Reads s.heap u (toPy d) as ∧ SafeD s.heap as
  | _, .non, _, _, _, h, r => by cases h; cases r; exact ⟨_, by simp only [toPy]; exact .none, safe_nil⟩
  | _, .bl _, _, _, _, h, r => by cases h; cases r; exact ⟨_, by simp only [toPy]; exact .bool _, safe_nil⟩
  | _, .int _, _, _, _, h, r => by cases h; obtain ⟨t, rfl⟩ := r; exact ⟨_, by simp only [toPy]; exact .int _ _, safe_nil⟩
  | _, .str _, _, _, _, h, r => by cases h; obtain ⟨t, rfl⟩ := r; exact ⟨_, by simp only [toPy]; exact .str _ _, safe_nil⟩
  | 0, .tup _, _, _, p, _, _ => by simp [rp] at p
  | 0, .lst _, _, _, p, _, _ => by simp [rp] at p
  | 0, .dic _, _, _, p, _, _ => by simp [rp] at p
  | n + 1, .tup ds, _, _, p, h, r => by
    cases h with
    | tup h rs =>
      cases r
      obtain ⟨its, rv, ⟨o, ho, hc, m, hd⟩, _⟩ := I.tuple (same_t e h)
      obtain ⟨as, hr, sf⟩ := reps_reads I e n ds _ its (by simpa only [rp] using p) rs rv
      exact ⟨_, by simp only [toPy]; exact .tuple ho hc hd hr, sf⟩
  | n + 1, .lst ds, _, _, p, h, r => by
    cases h with
    | lst h rs =>
      cases r
      obtain ⟨its, rv, ⟨o, m, ho, hc, _, hd⟩, _⟩ := I.list (SqL.of (e _ _ h))
      obtain ⟨as, hr, sf⟩ := reps_reads I e n ds _ its (by simpa only [rp] using p) rs rv
      exact ⟨_, by simp only [toPy]; exact .list ho hc hd hr, safe_seq ho hd sf⟩
  | n + 1, .dic ds, _, _, p, h, r => by
    cases h with
    | dic h rs =>
      cases r
      obtain ⟨_, hS, vs, kv, o, es, ep, ho, hx, hd, _, hp, _⟩ := I.hok _ _ (e _ _ h)
      obtain ⟨as, bs, h1, h2, s1, s2⟩ := repk_reads I e n ds _ vs es.toList (by simpa only [rp] using p) rs kv hp
      refine ⟨_, by simp only [toPy]; exact .dict ho hx.1 hd h1 h2, safe_app (fun b m ob es' k e1 e2 => ?_) s2⟩
      rcases List.mem_cons.mp m with z | z
      · subst z
        exact hS
      · exact s1 b z ob es' k e1 e2
  | _, .obj _ _, _, _, p, _, _ => by simp [rp] at p
  | _, .opq _, _, _, p, _, _ => by simp [rp] at p
theorem reps_reads (I : Inv X pins σ H s) (e : Same F H) : ∀ (n : Nat) (ds : List D) (vs : List V) (us : List Value), rps n ds = true → Reps X.kn F vs ds → Vals vs us → ∃ as, ReadsAll s.heap us (toPys ds) as ∧ SafeD s.heap as
  | _, [], _, _, _, h, r => by cases h; cases r; exact ⟨_, by simp only [toPys]; exact .nil, safe_nil⟩
  | n, d :: ds, _, _, p, h, r => by
    simp only [rps, Bool.and_eq_true] at p
    cases h with
    | cons h1 h2 =>
      cases r with
      | cons r1 r2 =>
        obtain ⟨as, q1, s1⟩ := rep_reads I e n d _ _ p.1 h1 r1
        obtain ⟨bs, q2, s2⟩ := reps_reads I e n ds _ _ p.2 h2 r2
        exact ⟨_, by simp only [toPys]; exact .cons q1 q2, safe_app s1 s2⟩
theorem repk_reads (I : Inv X pins σ H s) (e : Same F H) : ∀ (n : Nat) (ds : List (Key × D)) (vs : List (Key × V)) (us : List (Key × Value)) (es : List DictEntry), rpk n ds = true → RepKs X.kn F vs ds → KV vs us → Pairs (mixKind X.prog X.w) es us →
    ∃ as bs, ReadsAll s.heap (es.map (·.key)) ((toPyK ds).map (·.1)) as ∧ ReadsAll s.heap (es.map (·.val)) ((toPyK ds).map (·.2)) bs ∧ SafeD s.heap as ∧ SafeD s.heap bs
  | _, [], _, _, _, _, h, r, p => by
    cases h
    cases r
    cases p
    exact ⟨_, _, by simp only [toPyK, List.map_nil]; exact .nil, by simp only [toPyK, List.map_nil]; exact .nil, safe_nil, safe_nil⟩
  | n, (.inl k, d) :: ds, _, _, _, q, h, r, p => by
    simp only [rpk, Bool.and_eq_true] at q
    cases h with
    | cons h1 h2 =>
      cases r with
      | @cons _ b _ _ r1 r2 =>
        obtain ⟨bk, bv⟩ := b
        obtain ⟨rfl, rv⟩ := r1
        cases p with
        | cons p1 p2 p3 =>
          obtain ⟨t, ek⟩ := Value.isInt_shape (show Value.isInt k _ = true from p1)
          obtain ⟨as, bs, a1, a2, s1, s2⟩ := repk_reads I e n ds _ _ _ q.2 h2 r2 p3
          obtain ⟨cs, c1, s3⟩ := rep_reads I e n d _ _ q.1 h1 rv
          simp only [toPyK, List.map_cons]
          rw [ek, p2]
          exact ⟨_, _, .cons (.int k t) a1, .cons c1 a2, safe_app safe_nil s1, safe_app s3 s2⟩
  | n, (.inr k, d) :: ds, _, _, _, q, h, r, p => by
    simp only [rpk, Bool.and_eq_true] at q
    cases h with
    | cons h1 h2 =>
      cases r with
      | @cons _ b _ _ r1 r2 =>
        obtain ⟨bk, bv⟩ := b
        obtain ⟨rfl, rv⟩ := r1
        cases p with
        | cons p1 p2 p3 =>
          obtain ⟨t, ek⟩ := Value.isStrOf_shape (show Value.isStrOf k _ = true from p1)
          obtain ⟨as, bs, a1, a2, s1, s2⟩ := repk_reads I e n ds _ _ _ q.2 h2 r2 p3
          obtain ⟨cs, c1, s3⟩ := rep_reads I e n d _ _ q.1.2 h1 rv
          simp only [toPyK, List.map_cons]
          rw [ek, p2]
          exact ⟨_, _, .cons (.str k t) a1, .cons c1 a2, safe_app safe_nil s1, safe_app s3 s2⟩
end
theorem repB_reads (I : Inv X pins σ H s) (e : Same F H) {d : D} {v : V} {u : Value} {W : WT} (p : rp 64 d = true) (h : RepB W X.kn F H v d) (r : RelV v u) (nd : isDct (toPy d) = false) : ∃ as, Reads s.heap u (toPy d) as ∧ SafeD s.heap as := by
  rcases h with h | ⟨a, ds, vs, rfl, rfl, _, h, rs⟩ | ⟨a, ds, vs, rfl, rfl, _, h, rs⟩
  · exact rep_reads I e 64 d v u p h r
  · cases r
    obtain ⟨its, rv, ⟨o, m, ho, hc, _, hd⟩, _⟩ := I.list (SqL.of h)
    obtain ⟨as, hr, sf⟩ := reps_reads I e 63 ds _ its (by simpa only [rp] using p) rs rv
    exact ⟨_, by simp only [toPy]; exact .list ho hc hd hr, safe_seq ho hd sf⟩
  · simp only [toPy, isDct] at nd
    cases nd
end
/-- the written part says that no limit of digits is set -/
structure Dig (K : PySem.W.Frag) : Prop where
  ok : PySem.W.nsOkIn K cStatics = true
  no : PySem.W.nsIn K cStatics "sys.int_max_str_digits" = some none
theorem Dig.at {K : PySem.W.Frag} {h : Heap} (d : Dig K) (X : K.In h) : h.NoDigits := ⟨h.nsMap cStatics, .of_isNs (PySem.W.isNs_of_in X d.ok), PySem.W.nsMap_none_of_in X d.ok d.no⟩
def reprB : List D → (D → Prop) → Prop
  | [x], Q => rp 64 x = true ∧ isDct (toPy x) = false ∧ bigOk (toPy x) = true ∧ (toPy x).shown.length ≤ sizeLine ∧ Q (.str (toPy x).shown)
  | _, _ => False
@[simp] theorem reprB_x (x : D) (Q : D → Prop) : reprB [x] Q = (rp 64 x = true ∧ isDct (toPy x) = false ∧ bigOk (toPy x) = true ∧ (toPy x).shown.length ≤ sizeLine ∧ Q (.str (toPy x).shown)) := rfl
theorem c_reprB (hd : Dig X.K) (hG : X.A.guards = some []) (hu : X.A.units + 65 < cLine) : CallR X (.builtin "repr") (LCa B X.kn reprB) := fun pins s σ H vs us Q I rx ⟨F, ds, Qd, e, dk, r, q, k⟩ => by
  unfold reprB at q
  split at q
  · rename_i x
    obtain ⟨v, rfl, r1⟩ := rb1 r
    obtain ⟨h1, hnd, h2, h3, h4⟩ := q
    obtain ⟨u, rfl, ru⟩ := vals1 rx
    have fin : Q (.str (toPy x).shown) H := k.here e dk h4 (.str _)
    have sh := rp_depth 64 x h1
    have nd := hd.at I.kIn
    have refs : ∀ a, v = .ref a → wpAny (model X.prog X.w) X.A (call (.builtin "repr") [u]) (EP X pins σ Q) X.xe s := fun a hv => by
      subst hv
      cases ru
      obtain ⟨as, rd, sf⟩ := repB_reads I e h1 r1 rfl hnd
      exact repr_big nd rd sf hnd h2 h3 hG (by omega) fun h' u tk hk => ⟨.str _, H, I.kept (t' := tk) hk, ⟨_, rfl⟩, fin⟩
    cases x with
    | non => cases r1.non; cases ru; exact PySem.P.repr_of_none ⟨.str _, H, I.tok _, ⟨_, rfl⟩, by simpa [toPy, PyData.shown] using fin⟩
    | bl b => cases r1.bl; cases ru; exact PySem.P.repr_of_bool ⟨.str _, H, I.tok _, ⟨_, rfl⟩, by simpa [toPy, PyData.shown] using fin⟩
    | int i =>
      cases r1.int
      obtain ⟨t, rfl⟩ := ru
      refine call_repr_slot (by omega) (typeIs_int s i t) PySem.F.slot_int_repr.toG (big_repr nd (by simp only [toPy, bigOk] at h2; exact of_decide_eq_true h2) ⟨_, _, rfl, .str _, H, I.tok _, ⟨_, rfl⟩, ?_⟩)
      simpa [toPy, PyData.shown] using fin
    | str i =>
      cases r1.str
      obtain ⟨t, rfl⟩ := ru
      exact PySem.P.repr_of_str ⟨.str _, H, I.tok _, ⟨_, rfl⟩, by simpa [toPy, PyData.shown] using fin⟩ (by simpa [toPy, PyData.shown] using h3)
    | tup xs => obtain ⟨a, us, hv, _⟩ := r1.tup e; exact refs a hv
    | lst xs => obtain ⟨a, us, hv, _⟩ := r1.lst e; exact refs a hv
    | dic _ => simp only [toPy, isDct] at hnd; cases hnd
    | obj _ _ => simp [rp] at h1
    | opq _ => simp [rp] at h1
  · exact q.elim
end
end ND

/-! ND19: int of a text of up to 4300 signs -/
namespace ND
open PySem PySem.Spec L2
open PyProof.Rows (envOfC)
section
open PySem.Calls PySem.NumText PySem.W.KIN PySem.W
theorem wp_max {M : Model} {A : Around} {E : Value → Shared → Prop} {s : Shared} {Q : Nat → Shared → Prop} (hn : s.heap.NoDigits) (h : Q 4300 s) : wpAny M A Builtin.intMaxStrDigits Q E s := by
  obtain ⟨mc, hns, hnone⟩ := hn
  unfold Builtin.intMaxStrDigits
  refine wpAny_bind (wpAny_nsGet hns ?_)
  rw [hnone]
  exact wpAny_pure h
theorem wp_text4 {M : Model} {A : Around} {E : Value → Shared → Prop} {s : Shared} {Q : Value → Shared → Prop} {v : Value} {text : List Nat} {n : Int} (hn : s.heap.NoDigits)
    (hs : ¬ (text.takeWhile (· != 0)).length ≤ 640) (hr : (int_private% "readNumeral") 4300 10 (text.takeWhile (· != 0)) = (int_private% "Numeral.value") n)
    (ha : ((text.takeWhile (· != 0)).length == text.length) = true) (h : Q (.int n s.toks) { s with toks := s.toks + 1 }) :
    wpAny M A ((int_private% "intFromText") v text 10) Q E s := by
  obtain ⟨hp, g, d, tk, os⟩ := s
  repeat (any_goals (first
    | assumption
    | (with_reducible refine wpAny_ite_false (decide_eq_false hs) ?_)
    | (with_reducible refine wpAny_ite_true (decide_eq_true ha) ?_)
    | (with_reducible refine wp_max hn ?_)
    | wp_step))
  all_goals (try rw [hr])
  all_goals (try dsimp only)
  repeat (any_goals (first
    | assumption
    | (with_reducible refine wpAny_ite_true (decide_eq_true ha) ?_)
    | wp_step))
theorem read4 {x : Str} {n : Int} (hx : x.length ≤ sizeLine) (hn : PySem.intText? x = some n) : (int_private% "readNumeral") 4300 10 (numSeenOf x) = (int_private% "Numeral.value") n ∧ ((numSeenOf x).length == (numTextOf x).length) = true := by
  rcases read4300 x hx with ⟨m, h1, h2, h3⟩ | ⟨h1, _⟩
  · cases hn.symm.trans h1
    exact ⟨h3, h2⟩
  · cases hn.symm.trans h1
def s4 (n : Int) : Spec := fun _ R s => s.heap.NoDigits ∧ R (.ok (.ret (.int n s.toks))) { s with toks := s.toks + 1 }
theorem meets4 {x : PySem.Str} {u : Tok} {n : Int} (hl : ¬ (numSeenOf x).length ≤ 640) (hx : x.length ≤ sizeLine) (hn : PySem.intText? x = some n) : Meets (Builtin.«int.__new__» ⟨[.type "int", .str x u], []⟩) (s4 n) := by
  rintro prog w A R s ⟨hd, h⟩
  refine wpAny_mono (Q := fun fin s' => ∃ v, fin = .done (.ret v) ∧ R (.ok (.ret v)) s') ?_ (fun fin s' h' => by obtain ⟨v, rfl, hv⟩ := h'; exact hv) fun _ _ e => e
  obtain ⟨hp, g, d, tk, os⟩ := s
  have f1 := PySem.F.conv_sub_int
  have f2 := PySem.F.madeHere_int
  have f3 := str_int
  have f4 := str_idx
  have f5 := str_trunc
  have f6 : typeOf (.str x u) = pure (.type "str") := rfl
  have hk := Hid.mk (And.intro hl (read4 hx hn))
  clear hl hn hx
  repeat (any_goals (first
    | assumption
    | ((with_reducible show wpAny _ _ ((int_private% "intFromText") _ _ _) _ _ _); refine wp_text4 hd hk.out.1 hk.out.2.1 hk.out.2.2 ?_)
    | wp_step))
  all_goals first | exact ⟨_, rfl, h⟩ | skip
theorem read1 {x : Str} {n : Int} (hs : (numSeenOf x).length ≤ 640) (hn : PySem.intText? x = some n) : (int_private% "readNumeral") 0 10 (numSeenOf x) = (int_private% "Numeral.value") n ∧ ((numSeenOf x).length == (numTextOf x).length) = true := by
  rcases read0 x hs with ⟨m, h1, h2, h3⟩ | ⟨h1, _⟩
  · cases hn.symm.trans h1
    exact ⟨h3, h2⟩
  · cases hn.symm.trans h1
theorem meets1 {x : PySem.Str} {u : Tok} {n : Int} (hl : (numSeenOf x).length ≤ 640) (hn : PySem.intText? x = some n) : Meets (Builtin.«int.__new__» ⟨[.type "int", .str x u], []⟩) (s4 n) := by
  rintro prog w A R s ⟨hd, h⟩
  refine wpAny_mono (Q := fun fin s' => ∃ v, fin = .done (.ret v) ∧ R (.ok (.ret v)) s') ?_ (fun fin s' h' => by obtain ⟨v, rfl, hv⟩ := h'; exact hv) fun _ _ e => e
  obtain ⟨hp, g, d, tk, os⟩ := s
  have f1 := PySem.F.conv_sub_int
  have f2 := PySem.F.madeHere_int
  have f3 := str_int
  have f4 := str_idx
  have f5 := str_trunc
  have f6 : typeOf (.str x u) = pure (.type "str") := rfl
  have hk := Hid.mk (And.intro hl (read1 hl hn))
  clear hl hn
  repeat (any_goals (first
    | assumption
    | ((with_reducible show wpAny _ _ ((int_private% "intFromText") _ _ _) _ _ _); refine wp_text hk.out.1 hk.out.2.1 hk.out.2.2 ?_)
    | wp_step))
  all_goals first | exact ⟨_, rfl, h⟩ | skip
theorem call_text4 {prog : Program} {w : World} {A : Around} {E : Value → Shared → Prop} {s : Shared} {Q : Value → Shared → Prop} {x : PySem.Str} {t : Tok} {n : Int} (hd : s.heap.NoDigits) (hx : x.length ≤ sizeLine) (hn : PySem.intText? x = some n)
    (h : Q (.int n s.toks) { s with toks := s.toks + 1 }) : wpAny (model prog w) A (call (.type "int") [.str x t]) Q E s := by
  by_cases hl : (numSeenOf x).length ≤ 640
  · exact call_int_1 (meets1 hl hn) ⟨hd, rfl, h⟩
  · exact call_int_1 (meets4 hl hx hn) ⟨hd, rfl, h⟩
end
section
variable {B : Bs} {X : Cx}
/-- int(..), of texts of any length that is allowed -/
def intB : List D → (D → Prop) → Prop
  | [.int i], Q => Q (.int i)
  | [.bl b], Q => Q (.int (if b = true then 1 else 0))
  | [.str x], Q => ∃ n, intText? x = some n ∧ x.length ≤ sizeLine ∧ Q (.int n)
  | _, _ => False
@[simp] theorem intB_i (i : Int) (Q : D → Prop) : intB [.int i] Q = Q (.int i) := rfl
@[simp] theorem intB_b (i : Bool) (Q : D → Prop) : intB [.bl i] Q = Q (.int (if i = true then 1 else 0)) := rfl
@[simp] theorem intB_s (x : Str) (Q : D → Prop) : intB [.str x] Q = ∃ n, intText? x = some n ∧ x.length ≤ sizeLine ∧ Q (.int n) := rfl
theorem c_intB (hd : Dig X.K) : CallR X (.type "int") (LCa B X.kn intB) := fun pins s σ H vs us Q I rx ⟨F, ds, Qd, e, dk, r, q, k⟩ => by
  unfold intB at q
  split at q
  · exact c_int pins s σ H vs us Q I rx ⟨F, _, Qd, e, dk, r, q, k⟩
  · exact c_int pins s σ H vs us Q I rx ⟨F, _, Qd, e, dk, r, q, k⟩
  · obtain ⟨v, rfl, r1⟩ := rb1 r
    obtain ⟨n, h1, h2, h3⟩ := q
    cases r1.str
    obtain ⟨u, rfl, t, rfl⟩ := vals1 rx
    exact call_text4 (hd.at I.kIn) h2 h1 ⟨.int n, H, I.tok _, ⟨_, rfl⟩, k.here e dk h3 (.int _)⟩
  · exact q.elim
end
end ND

/-! ND20: how long a repr is -/
namespace ND
open PySem PySem.Spec L2
mutual
/-- a bound of the length of the repr -/
def rsz : D → Nat
  | .non => 5
  | .bl _ => 5
  | .int _ => 4301
  | .str x => 10 * x.cps.size + 2
  | .tup xs => rszs xs + 3
  | .lst xs => rszs xs + 3
  | .dic xs => rszk xs + 3
  | _ => 5
def rszs : List D → Nat
  | [] => 0
  | x :: xs => rsz x + 2 + rszs xs
def rszk : List (Key × D) → Nat
  | [] => 0
  | (.inl _, x) :: xs => 4301 + rsz x + 4 + rszk xs
  | (.inr k, x) :: xs => 10 * k.cps.size + 2 + rsz x + 4 + rszk xs
end
theorem toPys_len : ∀ xs : List D, (PyData.shownAll (toPys xs)).length = xs.length
  | [] => by simp [toPys, PyData.shownAll]
  | x :: xs => by simp [toPys, PyData.shownAll, toPys_len xs]
theorem toPyK_len : ∀ xs : List (Key × D), (PyData.shownKv (toPyK xs)).length = xs.length
  | [] => by simp [toPyK, PyData.shownKv]
  | (.inl _, x) :: xs => by simp [toPyK, PyData.shownKv, toPyK_len xs]
  | (.inr _, x) :: xs => by simp [toPyK, PyData.shownKv, toPyK_len xs]
theorem str_rsz {x : Str} (h1 : PyData.strOk x = true) : (PyData.shown (.str x)).length ≤ 10 * x.cps.size + 2 := by
  have hx : ∀ c ∈ x.cps.toList, c < 16 ^ 8 := fun c hc => by
    unfold PyData.strOk at h1
    rw [← Array.all_toList, List.all_eq_true] at h1
    have := of_decide_eq_true (h1 c hc)
    omega
  simp only [PyData.shown]
  exact StrLaws.reprText_len x hx
theorem int_rsz {i : Int} (h : bigOk (.int i) = true) : (PyData.shown (.int i)).length ≤ 4301 := by
  simp only [bigOk, decide_eq_true_eq] at h
  have e := int_text_length_le10 (k := 4300) (by decide) h
  simp only [PyData.shown]
  rw [ofString_length]
  exact e
mutual
theorem shown_rsz : ∀ (n : Nat) (d : D), rp n d = true → bigOk (toPy d) = true → (toPy d).shown.length ≤ rsz d
  | _, .non, _, _ => by show (PyData.shown .none).length ≤ 5; decide
  | _, .bl b, _, _ => by cases b <;> decide
  | _, .int i, _, h => by
    simp only [toPy, rsz] at h ⊢
    exact int_rsz h
  | n, .str x, h, _ => by
    simp only [toPy, rsz]
    exact str_rsz (by cases n <;> simpa only [rp] using h)
  | 0, .tup xs, h, _ => by simp [rp] at h
  | 0, .lst xs, h, _ => by simp [rp] at h
  | 0, .dic xs, h, _ => by simp [rp] at h
  | n + 1, .tup xs, h, h' => by
    have e := shownAll_rsz n xs (by simpa only [rp] using h) (by simpa only [toPy, bigOk] using h')
    have e2 := tupleText_len_le (PyData.shownAll (toPys xs))
    rw [toPys_len] at e2
    simp only [toPy, PyData.shown, rsz]
    omega
  | n + 1, .lst xs, h, h' => by
    have e := shownAll_rsz n xs (by simpa only [rp] using h) (by simpa only [toPy, bigOk] using h')
    have e2 := listText_len_le (PyData.shownAll (toPys xs))
    rw [toPys_len] at e2
    simp only [toPy, PyData.shown, rsz]
    omega
  | n + 1, .dic xs, h, h' => by
    have e := shownKv_rsz n xs (by simpa only [rp] using h) (by simpa only [toPy, bigOk] using h')
    have e2 := dictText_len_le (PyData.shownKv (toPyK xs))
    rw [toPyK_len] at e2
    simp only [toPy, PyData.shown, rsz]
    omega
  | n, .obj _ _, h, _ => by simp [rp] at h
  | n, .opq _, h, _ => by simp [rp] at h
theorem shownAll_rsz : ∀ (n : Nat) (xs : List D), rps n xs = true → bigAll (toPys xs) = true → ((PyData.shownAll (toPys xs)).map (·.length)).sum + 2 * xs.length ≤ rszs xs
  | _, [], _, _ => by simp [toPys, PyData.shownAll, rszs]
  | n, x :: xs, h, h' => by
    simp only [rps, Bool.and_eq_true] at h
    simp only [toPys, bigAll, Bool.and_eq_true] at h'
    have e1 := shown_rsz n x h.1 h'.1
    have e2 := shownAll_rsz n xs h.2 h'.2
    simp only [toPys, PyData.shownAll, rszs, List.map_cons, List.sum_cons, List.length_cons]
    omega
theorem shownKv_rsz : ∀ (n : Nat) (xs : List (Key × D)), rpk n xs = true → bigKv (toPyK xs) = true → ((PyData.shownKv (toPyK xs)).map (·.length)).sum + 2 * xs.length ≤ rszk xs
  | _, [], _, _ => by simp [toPyK, PyData.shownKv, rszk]
  | n, (.inl k, x) :: xs, h, h' => by
    simp only [rpk, Bool.and_eq_true] at h
    simp only [toPyK, bigKv, Bool.and_eq_true] at h'
    have e0 := int_rsz h'.1.1
    have e1 := shown_rsz n x h.1 h'.1.2
    have e2 := shownKv_rsz n xs h.2 h'.2
    have e3 : ((PyData.shown (.int k)) ++ ": " ++ (toPy x).shown).length = (PyData.shown (.int k)).length + 2 + (toPy x).shown.length := by
      rw [strLen_append, strLen_append]; rfl
    simp only [toPyK, PyData.shownKv, rszk, List.map_cons, List.sum_cons, List.length_cons]
    omega
  | n, (.inr k, x) :: xs, h, h' => by
    simp only [rpk, Bool.and_eq_true] at h
    simp only [toPyK, bigKv, Bool.and_eq_true] at h'
    have e0 := str_rsz h.1.1
    have e1 := shown_rsz n x h.1.2 h'.1.2
    have e2 := shownKv_rsz n xs h.2 h'.2
    have e3 : ((PyData.shown (.str k)) ++ ": " ++ (toPy x).shown).length = (PyData.shown (.str k)).length + 2 + (toPy x).shown.length := by
      rw [strLen_append, strLen_append]; rfl
    simp only [toPyK, PyData.shownKv, rszk, List.map_cons, List.sum_cons, List.length_cons]
    omega
end
/-- what can be shown -/
def Rok (x : D) : Prop := rp 64 x = true ∧ isDct (toPy x) = false ∧ bigOk (toPy x) = true ∧ rsz x ≤ 16000000
theorem Rok.len {x : D} (h : Rok x) : (toPy x).shown.length ≤ sizeLine := Nat.le_trans (shown_rsz _ _ h.1 h.2.2.1) (Nat.le_trans h.2.2.2 (by decide))
theorem Rok.reprB {x : D} {Q : D → Prop} (h : Rok x) (q : Q (.str (toPy x).shown)) : reprB [x] Q := by
  rw [reprB_x]
  exact ⟨h.1, h.2.1, h.2.2.1, h.len, q⟩
/-- a for by what holds before each turn -/
theorem forG_inv {gt : GG} {g : GS} {E : Ed} (P : List D → List SV → Prop) (hend : ∀ σ, P [] σ → E.nx σ)
    (step : ∀ x xs σ, P (x :: xs) σ → ∀ E' : Ed, E'.rt = E.rt → E'.bk = E.nx → (∀ σ2, P xs σ2 → E'.nx σ2) → (∀ σ2, P xs σ2 → E'.ct σ2) → gt x σ fun σ' => g E' σ') : ∀ xs σ, P xs σ → forG gt g xs E σ
  | [], σ, h => hend σ h
  | x :: xs, σ, h => step x xs σ h _ rfl rfl (fun σ2 h2 => forG_inv P hend step xs σ2 h2) fun σ2 h2 => forG_inv P hend step xs σ2 h2
end ND

/-! ND21: x(lambda: ..), where x calls what it gets -/
namespace ND
open PySem PySem.Spec L2
open PyProof.Rows (envOfC)
/-- what running the lambda asks: of an error, of the answer -/
abbrev Act := (Er → Prop) → (D → Prop) → Prop
/-- what a def promises that gets a lambda -/
abbrev ASp := WD → Act → (D → Prop) → Prop
def svD : SV → SV
  | .d x => .d x
  | _ => .no
@[simp] theorem svD_d (x : D) : svD (.d x) = .d x := rfl
@[simp] theorem svD_no : svD .no = .no := rfl
@[simp] theorem svD_ol (xs : List D) : svD (.ol xs) = .no := rfl
/-- a state without what is one's own -/
@[simp] def noOwn (σ : List SV) : List SV := σ.map svD
theorem rel_noOwn {B : Bs} {K : Kn} {σ : List SV} {s : L2.St} {F H : Hp} (R : Rel B K σ s F H) : Rel ⟨B.W, F, H⟩ K (noOwn σ) s F H :=
  ⟨Grow.refl R.ex, R.deck, R.deck, by rw [noOwn, List.length_map]; exact R.len, fun _ => none, ⟨fun _ _ _ z => (nomatch z), fun _ _ z => (nomatch z)⟩, fun i x v e1 e2 => by
    rw [noOwn, List.getElem?_map] at e1
    cases h : σ[i]? with
    | none =>
      rw [h] at e1
      cases e1
    | some y =>
      rw [h] at e1
      cases e1
      cases y with
      | d z =>
        obtain ⟨u, h1, h2⟩ := R.dat h
        rw [h1] at e2
        cases e2
        exact h2
      | no => exact True.intro
      | ol xs => exact True.intro
      | od ks => exact True.intro
      | oo p n fs => exact True.intro⟩
theorem ext_notW {W : WT} {F H : Hp} {c : Addr} {φ : Heap → Prop} (dk : DeckIn W F H) (e : H c = some (.ext φ)) : ¬ InW W c := fun z => by
  rcases z with ⟨pp, ep, o⟩ | ⟨x, hx, rfl⟩
  · obtain ⟨ns, m, n, h1, h2, _⟩ := (dk.dk _ ep).st
    rcases o with o | o <;> subst o
    · rw [h1] at e
      cases e
    · rw [h2] at e
      cases e
  · obtain ⟨ps, h1, _⟩ := dk.tb x hx
    rw [h1] at e
    cases e
def ActOk (W : WT) (K : Kn) (F H : Hp) (tl : XK → Hp → VK → Prop) (act : Act) : Prop :=
  ∀ F' H' R Qd E Q, Grow W F H F' H' → DeckIn W F' H' → act R Qd → Fin ⟨W, F', H'⟩ K F' H' Qd Q → FinE W K F' H' R E → tl E H' Q
def TTg (K : Kn) (T : List (Addr × Str)) (sp : ASp) : (XK → Hp → VK → Prop) → Hp → VK → Prop := fun tl H Q =>
  ∃ (W : WD) (F : Hp) (act : Act) (Qd : D → Prop), Same F H ∧ DeckIn ⟨W, T⟩ F H ∧ sp W act Qd ∧ ActOk ⟨W, T⟩ K F H tl act ∧ Fin ⟨⟨W, T⟩, F, H⟩ K F H Qd Q
/-- the lambda at f is called: it stands in the first slot -/
def gAct (f : Addr) (act : Act) (R : Er → Prop) (σ : List SV) (Q : D → Prop) : Prop := σ[0]? = some (.d (.opq (.ref f))) ∧ act R Q
@[simp] theorem gAct_x (f g : Addr) (act : Act) (R : Er → Prop) (σ : List SV) (Q : D → Prop) : gAct f act R (.d (.opq (.ref g)) :: σ) Q = (g = f ∧ act R Q) := by
  simp [gAct]
theorem ed_act {Z : Cx} {W : WT} {F H : Hp} {f c' : Addr} {q a : Str} {tl : XK → Hp → VK → Prop} {act : Act} {E : XK} {R : Er → Prop} {p1 p2 : Pos} (hc : H c' = some (LamX.CodeO c' q)) (ok : ActOk W Z.kn F H tl act) (hE : FinE W Z.kn F H R E)
    (h : PE Z (.Call (.Name a p1) [] [] p2) (fun σZ HZ Q => σZ[0]? = some (some (.ref f)) ∧ HZ c' = some (LamX.CodeO c' q) ∧ tl E HZ Q)) : ED ⟨W, F, H⟩ Z (.Call (.Name a p1) [] [] p2) (gAct f act R) :=
  ⟨pe_imp h fun s H2 Q ⟨σ, F2, Qd, Rl, ⟨e0, q⟩, k⟩ => by
    obtain ⟨v, hv, rp⟩ := Rl.dat e0
    cases rp
    exact ⟨hv, Rl.base.hh c' _ hc (ext_notW Rl.bdk hc) (by intro _ z; cases z), ok F2 H2 R Qd E Q Rl.base Rl.deck q k (hE.more Rl.base)⟩⟩
section
variable {P : Program} {w : World} {K : PySem.W.Frag} {mg : Str → Option Value} {base : Heap} {T : List (Addr × Str)} {x a : Str} {st : Stmt} {f : Addr} {fd : FuncData} {N : List Str} {k : Nat} {sp : ASp} {g : WD → Addr → Act → GS}
abbrev cxL (P : Program) (w : World) (K : PySem.W.Frag) (mg : Str → Option Value) (base : Heap) (N : List Str) (x : Str) (st : Stmt) (f : Addr) (cdv : Value) (A : Around) (outer : List Env) (s : Shared) (H : Hp) : Cx :=
  cxOf C8.CX0 P w K mg base N x (defScope st) f cdv A outer s H C8.E0
/-- the def x, which calls its one parameter a, keeps sp -/
structure OkL (P : Program) (w : World) (K : PySem.W.Frag) (mg : Str → Option Value) (base : Heap) (T : List (Addr × Str)) (x : Str) (st : Stmt) (k : Nat) (N : List Str) (a : Str) (sp : ASp) : Prop where
  ex : ∃ (f : Addr) (oc kV doc pm cdv ct : Value) (an od : Option Addr) (osl : Array (Option Value)), mg x = some (.ref f) ∧ Fun K x x st f (PySem.W.fnOf x x (defArgs st) (defBody st) (defScope st) .none kV doc pm an cdv ct) ∧
    K.lookup f = some ⟨oc, od, .func (PySem.W.fnOf x x (defArgs st) (defBody st) (defScope st) .none kV doc pm an cdv ct), osl⟩ ∧ PySem.W.codeIn K cdv x = true ∧
    ∀ (A : Around) (outer : List Env) (q : Str) (f0 c' : Addr) (s : Shared) (H : Hp) (Q : VK) (tl : XK → Hp → VK → Prop), Room k (A.deeper (envOfC x (defScope st) s.heap.objs.size f cdv)) →
      (∀ (W : WX) (pn : List (Addr × Obj)) (xe : Value → Shared → Prop) (E : XK) (p1 p2 : Pos), Takes ((cxL P w K mg base N x st f cdv A outer s H).tr pn xe) W → (∀ cls d σ' H', E cls d H' → W cls d σ' H') →
        PE ((cxL P w K mg base N x st f cdv A outer s H).tr pn xe) (.Call (.Name a p1) [] [] p2) (fun σZ HZ Q => σZ[0]? = some (some (.ref f0)) ∧ HZ c' = some (LamX.CodeO c' q) ∧ tl E HZ Q)) →
      H c' = some (LamX.CodeO c' q) → TTg ⟨K, mg⟩ T sp tl H Q →
      ∃ t, PSs (cxL P w K mg base N x st f cdv A outer s H).nox (defBody st) t ∧ t { nx := fun _ H' => Q .non H', rt := Q } (L2.start N [.ref f0]) H
  sc : FnScope N [a] (defScope st)
theorem okL (hm : mg x = some (.ref f)) (F : Fun K x x st f fd) (S : FnScope N [a] (defScope st))
    (body : ∀ (cdv : Value) (A : Around) (outer : List Env) (s : Shared) (H : Hp) (W : WD) (F : Hp) (f0 : Addr) (act : Act), Room k (A.deeper (envOfC x (defScope st) s.heap.objs.size f cdv)) →
      (∀ (Wx : WX) (pn : List (Addr × Obj)) (xe : Value → Shared → Prop) (R : Er → Prop) (p1 p2 : Pos), Takes ((cxL P w K mg base N x st f cdv A outer s H).tr pn xe) Wx → FinE ⟨W, T⟩ ⟨K, mg⟩ F H R (fun c o H => ∀ s : L2.St, s.length = N.length → Wx c o s H) →
        ED ⟨⟨W, T⟩, F, H⟩ ((cxL P w K mg base N x st f cdv A outer s H).tr pn xe) (.Call (.Name a p1) [] [] p2) (gAct f0 act R)) →
      SDs ⟨⟨W, T⟩, F, H⟩ (cxL P w K mg base N x st f cdv A outer s H).nox (defBody st) (g W f0 act))
    (law : ∀ W act Q f0, sp W act Q → g W f0 act (endsD Q) (startD N.length [.opq (.ref f0)])) : OkL P w K mg base T x st k N a sp := by
  obtain ⟨oc, od, kV, doc, pm, an, cdv, ct, osl, rfl, lk, hcd⟩ := F.ex
  refine ⟨⟨f, oc, kV, doc, pm, cdv, ct, an, od, osl, hm, F, lk, hcd, fun A outer q f0 c' s H Q tl hr hact hc tt => ?_⟩, S⟩
  obtain ⟨W, F0, act, Qd, e, dk, hsp, ok, fin⟩ := tt
  have b := body cdv A outer s H W F0 f0 act hr fun Wx pn xe R p1 p2 tk hE =>
    ed_act (Z := (cxL P w K mg base N x st f cdv A outer s H).tr pn xe) hc ok hE (hact (fun c o σ H => σ.length = N.length → Wx c o σ H) pn xe (fun c o H => ∀ s : L2.St, s.length = N.length → Wx c o s H) p1 p2
      (fun u s' ⟨a, B, sI, pins, σ, H, cls, d, e, I, nb, up, sky, na, os, ag, w⟩ => tk u s' ⟨a, B, sI, pins, σ, H, cls, d, e, I, nb, up, sky, na, os, ag, w I.len⟩) fun cls d σ' H' h hl => h σ' hl)
  exact ⟨_, b.run, startD N.length [.opq (.ref f0)], F0, endsD Qd, rel_start e dk (.cons (.opq _) .nil), law W act Qd f0 hsp,
    ⟨fun σ s F' H' _ R' qn => fin .non qn F' H' .non R'.base R'.deck .non, fun d v F' H' g' dk' r' qd => fin d qd F' H' v g' dk' r', fun _ _ _ _ _ _ z => z.elim, fun _ _ _ _ _ _ z => z.elim⟩⟩
end
/-! ### the making of a lambda: what becomes of the heap -/
section
variable {X : Cx} {pins : List (Addr × Obj)} {σ : L2.St} {H : Hp} {s : Shared}
/-- nothing, or the table is longer and a code object is new -/
def LamH (H : Hp) (Pt : Addr) (q : Str) (H1 : Hp) : Prop := H1 = H ∨ ∃ (ps : Array Value) (c' : Addr), H c' = none ∧ (∃ qs, H Pt = some (.tbl qs)) ∧ H1 = upd (upd H Pt (.tbl ps)) c' (LamX.CodeO c' q)
theorem no_fr (I : Inv X pins σ H s) {f : Addr} (new : s.heap.objs.size ≤ f) : f ∉ frs X.stack := fun w => by
  rcases List.mem_cons.mp (I.stkSub _ w) with z | z
  · exact Nat.lt_irrefl _ (Nat.lt_of_lt_of_le (z ▸ I.lt) new)
  · exact I.nofs new z
theorem lam_new {T : List (Addr × Str)} {c Pt : Addr} {params : Arguments} {body : Expr} {scope : Scope} {pos : Pos} {E Q : Value → Shared → Prop} {q : Str} (hq : q = X.env.qual ++ "<lambda>") (I : Inv X pins σ H s) (TB : LamX.TabB X.base X.mg c Pt) (isC : X.env.code = .ref c)
    (inT : (Pt, q) ∈ T) (one : ∀ p ∈ T, p.1 = Pt → p.2 = q) (tabs : LamX.Tabs T H) (nod : defaultsOf params X.env = ([], [])) (caught : ∀ y ∈ scope.names, y.2 = .free → ∃ c, X.env.cells.lookup y.1 = some c)
    (go : ∀ (f c' : Addr) (pm ctv : Value) (H1 : Hp) (z : Shared), Inv X pins σ H1 z → LamH H Pt q H1 → LamX.Tabs T H1 → z.heap.get? f = some (PySem.W.kla_obj "<lambda>" q params body scope (cloFrom X.env.cells scope.names []) pm c' ctv) → H1 f = none → f ∉ frs X.stack →
      H1 c' = some (LamX.CodeO c' q) → Q (.ref f) z) : wpAny (model X.prog X.w) X.A (eval (.Lambda params body scope pos) X.env) Q E s := by
  obtain ⟨ps, atP, tri, known⟩ := tabs _ inT
  have objP : s.heap.get? Pt = some { cls := .none, data := .fields ps } := I.hok Pt _ atP
  have bltP := TB.bm.keeps I.bk
  refine PySem.W.kla_eval nod ?_
  cases found : codeAmong pos ps.toList with
  | some cv =>
    obtain ⟨c', rfl, isco⟩ := known pos cv found
    refine PySem.W.kla_makeFunctionHit (mg := X.mg) (c := c) (P := Pt) (ps := ps) (closure_ok caught) I.ok.glob (I.mod.glob.keeps I.bk) isC (TB.code.keeps I.bk) objP tri found bltP fun ctv hp tk keep le => ?_
    subst hq
    exact go hp.objs.size c' _ ctv H _ (I.kept (t' := tk) fun b o e => Heap.get?_push_of_some _ (keep b o e)) (.inl rfl) tabs (Heap.get?_push_size _ rfl) (I.hok.fresh le) (no_fr I le) isco
  | none =>
    refine PySem.W.kla_makeFunction (mg := X.mg) (c := c) (P := Pt) (ps := ps) (closure_ok caught) I.ok.glob (I.mod.glob.keeps I.bk) isC (TB.code.keeps I.bk) objP tri found TB.gP bltP fun c' ctv hp tk keep le lt rec tab => ?_
    obtain ⟨c2, oc, vs, t, z2, getc, dat, nam⟩ := rec
    cases z2
    subst hq
    have le2 : s.heap.objs.size ≤ hp.objs.size := Nat.le_of_lt (Nat.lt_of_le_of_lt le lt)
    have freeC : H c' = none := I.hok.fresh le
    have neP : Pt ≠ c' := ne_of_none atP freeC
    have J := LamX.inv_table (t' := tk) (q := X.env.qual ++ "<lambda>") (more := #[rawInt pos.line, rawInt pos.col, .ref c']) (h' := hp.push (PySem.W.kla_obj "<lambda>" (X.env.qual ++ "<lambda>") params body scope (cloFrom X.env.cells scope.names []) ((X.mg "__name__").getD .none) c' ctv)) I atP
      (fun b o z e => Heap.get?_push_of_some _ (keep b o z e)) (Heap.get?_push_of_some _ tab) le ⟨oc, vs, t, Heap.get?_push_of_some _ getc, dat, nam⟩
    have others : ∀ b o, H b = some o → b ≠ Pt → upd (upd H Pt (.tbl (ps ++ #[rawInt pos.line, rawInt pos.col, .ref c']))) c' (LamX.CodeO c' (X.env.qual ++ "<lambda>")) b = some o := fun b o e z => by
      rw [upd_ne (ne_of_none e freeC), upd_ne z]
      exact e
    have codes : ∀ b (q : Str), H b = some (LamX.CodeO b q) → upd (upd H Pt (.tbl (ps ++ #[rawInt pos.line, rawInt pos.col, .ref c']))) c' (LamX.CodeO c' (X.env.qual ++ "<lambda>")) b = some (LamX.CodeO b q) := fun b q e => others b _ e fun z => by
      rw [z, atP] at e
      cases e
    refine go hp.objs.size c' _ ctv _ _ J (.inr ⟨_, c', freeC, ⟨_, atP⟩, rfl⟩) (fun p hp' => ?_) (Heap.get?_push_size _ rfl) ?_ (no_fr I le2) upd_same
    · by_cases z : p.1 = Pt
      · rw [one p hp' z, z]
        have app : (ps ++ #[rawInt pos.line, rawInt pos.col, .ref c']).toList = ps.toList ++ [rawInt pos.line, rawInt pos.col, .ref c'] := by rw [Array.toList_append]
        refine ⟨_, (upd_ne neP).trans upd_same, app ▸ PySem.TriplesOk_snoc _ _ _ _ tri, fun p2 cv e => ?_⟩
        rw [app] at e
        rcases LamX.among_app _ tri e with e | e
        · obtain ⟨c0, z1, z2⟩ := known p2 cv e
          exact ⟨c0, z1, codes _ _ z2⟩
        · exact ⟨c', e, upd_same⟩
      · obtain ⟨qs, b1, b2, b3⟩ := tabs p hp'
        refine ⟨qs, others _ _ b1 z, b2, fun p2 cv e => ?_⟩
        obtain ⟨c0, z1, z2⟩ := b3 p2 cv e
        exact ⟨c0, z1, codes _ _ z2⟩
    · have ne1 : hp.objs.size ≠ c' := Nat.ne_of_gt lt
      have ne2 : hp.objs.size ≠ Pt := fun z => Nat.lt_irrefl _ (Nat.lt_of_lt_of_le (Heap.lt_size objP) (z ▸ le2))
      rw [upd_ne ne1, upd_ne ne2]
      exact I.hok.fresh le2
end
theorem lamH_grow {W : WT} {F H H1 : Hp} {Pt : Addr} {q : Str} (e : Same F H) (dk : DeckIn W F H) (inT : (Pt, q) ∈ W.T) (l : LamH H Pt q H1) (tabs : LamX.Tabs W.T H1) : Grow W F H F H1 ∧ DeckIn W F H1 := by
  rcases l with rfl | ⟨ps, c', nc, ⟨qs, atP⟩, rfl⟩
  · exact ⟨Grow.refl e, dk⟩
  have st : ∀ a o, H a = some o → NT o → upd (upd H Pt (.tbl ps)) c' (LamX.CodeO c' q) a = some o := fun a o z n => by
    rw [upd_ne (ne_of_none z nc), upd_ne]
    · exact z
    · intro z2
      rw [z2, atP] at z
      cases z
      exact n _ rfl
  refine ⟨⟨Same.refl F, fun a o z => st a o (e a o z) (dk.nf a o z), fun a o z _ n => st a o z n, fun _ z _ => z, fun a z => upd_keep (upd_keep z)⟩, ⟨fun p z => ?_, dk.tf, tabs, dk.nf, fun a qs z => ?_⟩⟩
  · have d := dk.dk p z
    obtain ⟨ns, m, n, h1, h2, r⟩ := d.st
    exact ⟨d.fd, d.fl, d.ne, ns, m, n, st _ _ h1 (by intro _ z; cases z), st _ _ h2 (by intro _ z; cases z), r⟩
  · by_cases h1 : a = c'
    · subst h1
      rw [upd_same] at z
      cases z
    · rw [upd_ne h1] at z
      by_cases h2 : a = Pt
      · exact ⟨_, inT, h2⟩
      · rw [upd_ne h2] at z
        exact dk.ot a qs z
@[simp] def gLam (sp : ASp) (W : WD) (fl : (Er → Prop) → GE) (σ : List SV) (Q : D → Prop) : Prop := sp W (fun R Qd => fl R (noOwn σ) Qd) Q
theorem noOwn2 (σ : List SV) : noOwn (noOwn σ) = noOwn σ := by
  simp only [noOwn, List.map_map]
  congr 1
  funext x
  cases x <;> rfl
section
variable {B : Bs} {X : Cx} {M : Str → Str → Option Bool}
def tlB (W : WT) (K : Kn) (fl : (Er → Prop) → GE) (E : XK) : TE := fun σ H Q => ∃ (F : Hp) (R : Er → Prop) (σd : List SV) (Qd : D → Prop), FinE W K F H R E ∧ Rel ⟨W, F, H⟩ K σd σ F H ∧ fl R σd Qd ∧ Fin ⟨W, F, H⟩ K F H Qd Q
theorem ed_lam {x a : Str} {st : Stmt} {N : List Str} {k : Nat} {sp : ASp} {c Pt : Addr} {params : Arguments} {body : Expr} {scope : Scope} {lpos p pos : Pos} {fl : (Er → Prop) → GE}
    (O : OkL X.prog X.w X.K X.mg X.base B.W.T x st (k + 1) N a sp) (b : BindsP x st [a]) (TB : LamX.TabB X.base X.mg c Pt) (isC : X.env.code = .ref c) (inT : (Pt, X.env.qual ++ "<lambda>") ∈ B.W.T) (one : ∀ p ∈ B.W.T, p.1 = Pt → p.2 = X.env.qual ++ "<lambda>") (hr : Room (k + 2) X.A)
    (L : LamX.LamS X.env.scope scope)
    (hb : ∀ (A : Around) (outer : List Env) (s : Shared) (H : Hp) (E : XK) (f c' : Addr) (F' H' : Hp) (R : Er → Prop), Room k (A.deeper (LamX.lamEnv X scope s.heap.objs.size f c')) → FinE B.W X.kn F' H' R E → Passes (L2.CX X.prog X.w) (LamX.lamCx X A outer s H E scope f c') E →
      ED ⟨B.W, F', H'⟩ (LamX.lamCx X A outer s H E scope f c') body (fl R))
    (hN : N[0]? = some a) (hva : Vis (defScope st) a) (hdef : defaultsOf params X.env = ([], []))
    (hbind : ∀ (q : Str) (cl : List (Str × Addr)) (pm cv ctv : Value), bindArgs (PySem.W.kla_fn "<lambda>" q params body scope cl pm cv ctv) ⟨[], []⟩ = pure [])
    (hg : Gl X x := by rfl) (hdb : (x == ("__debug__" : Str)) = false := by decide) (hd : (a == ("__debug__" : Str)) = false := by decide) (hcd : (a == ("__classdict__" : Str)) = false := by decide) :
    ED B X (.Call (.Name x p) [.Lambda params body scope lpos] [] pos) (gLam sp B.W.p fl) := by
  obtain ⟨f, oc, kV, doc, pm, cdv, ct, an, od, osl, hm, F, lk, hcode2, gives⟩ := O.ex
  refine ⟨⟨fun pins s σ H Q I ⟨σd, F0, Qd, Rl, q, kf⟩ => wpAny_Call_Name_kw (ld_glob I hg hm (PySem.W.callWith_K (h₀ := X.base) I.ok.mod.kin F.kp ?_ (by rfl) (by rfl)) hdb)⟩⟩
  show wpAny _ _ (spliced ((false, eval (.Lambda params body scope lpos) X.env) :: backTo pos (starEach [] X.env))) _ _ s
  refine Calls.spliced_cons (lam_new rfl I TB isC inT one Rl.deck.tb hdef (L.has I.ok) fun f0 c' pm' ctv H1 s' I1 lH T1 getf nf nfr isco => Calls.spliced_nil ⟨I1.kIn, ?_⟩)
  obtain ⟨g, d1⟩ := lamH_grow Rl.ex Rl.deck inT lH T1
  have rc : codeAny (model X.prog X.w) X.A (.call (.ref f) ⟨[.ref f0], []⟩) (CR C8.CX0 X.stack X.prog X.w H1 s' Q C8.E0) s' := by
    refine LamX.run_ofS (N := N) (ps := [a]) (us := [.ref f0]) (vs := [.ref f0]) lk hcode2 O.sc hr I1.env0 (F.binds b s' [.ref f0] I1.kIn rfl) (.cons rfl .nil) rfl fun hr' => ?_
    obtain ⟨t', ht', hq'⟩ := gives X.A X.stack (X.env.qual ++ "<lambda>") f0 c' s' H1 Q (fun E H' Q' => tlB B.W X.kn fl E σ H' Q') hr'
      (fun W pn xe E p1 p2 tk hW => LamX.pe_act (i := 0) (tb := tlB B.W X.kn fl E) I1 L getf nf nfr (hbind _ _ _ _ _) tk hW hr' (fun A outer s H hr2 => ⟨fun pins s2 σ H2 Q I ⟨F, R, σd, Qd, hE, Rl, q, kf⟩ =>
        (hb A outer s H E f0 c' F H2 R hr2 hE (passes_call (takes_of rfl rfl rfl rfl) fun _ _ _ _ z => z)).run.run pins s2 σ H2 Q I ⟨σd, F, Qd, Rl, q, kf⟩⟩) hN hva hd hcd) isco
      ⟨B.W.p, F0, fun R Qd => fl R (noOwn σd) Qd, Qd, g.fh, d1, q, fun F' H' R Qd' E Q' g' dk' qa fin hE => ⟨F', R, noOwn σd, Qd', hE, by
        have z := rel_noOwn (B := ⟨B.W, F0, H⟩) ((rel_noOwn Rl).grow (g.trans g') dk')
        rw [noOwn2] at z
        exact z, qa, fin⟩, kf.more g⟩
    exact ⟨t', ht'.nox, hq'⟩
  refine wpAny_call (codeAny_mono rc fun r s2 hq => ?_)
  rcases r with e | fl
  · exact (show False from hq).elim
  · cases fl <;> first | exact I1.after hq | exact False.elim hq
end
end ND

/-! ND22: try around what a lambda does; str of integers; t[::-1] of a tuple; a list of one's own made in a parallel assignment; the empty promise -/
namespace ND
open PySem PySem.Spec L2
open PyProof.Rows (envOfC)
section
variable {B : Bs} {X : Cx} {M : Str → Str → Option Bool}
/-- as sd_try; the body is told what takes its exceptions -/
theorem sd_tryL {body : List Stmt} {h₀ : ExceptHandler} {hs : List ExceptHandler} {l : List Cls3} {l' : List Hdl} {tb : (Er → Prop) → GS} {pos : Pos} {R : Er → Prop} {E : XK} (hst : X.stack = X.env :: X.outer) (hf : X.env.frame = some X.env.locals) (hN : X.N.Nodup)
    (tk : Takes X (fun c o _ H => E c o H)) (hE : FinE B.W X.kn B.F B.H R E) (hM : ClsTab X.kn M)
    (hb : ∀ (Wx : WX) (pn : List (Addr × Obj)) (xe : Value → Shared → Prop) (R' : Er → Prop), Takes (X.tr pn xe) Wx → FinE B.W X.kn B.F B.H R' (fun c o H => ∀ s : L2.St, s.length = X.N.length → Wx c o s H) → PassesOwn (model X.prog X.w) X.A X.env xe → SDs B (X.tr pn xe) body (tb R'))
    (hh : ClausesOk B X (h₀ :: hs) l l') : SD B X (.Try body (h₀ :: hs) [] [] pos) (gTry M X.N.length R tb l) :=
  ⟨ps_imp (ps_try_h (Wout := fun c o _ H => E c o H) (tb := fun W Dn s H => ∃ R', FinE B.W X.kn B.F B.H R' (fun c o H => ∀ s : L2.St, s.length = X.N.length → W c o s H) ∧ LS B X.kn (tb R') Dn s H) hst hf hN tk
      (fun W pn xe tk' po => ⟨fun pins s σ H Dn I ⟨R', fin, q⟩ => (hb W pn xe R' tk' fin po).run.run pins s σ H Dn I q⟩) hh.hdls)
    fun Dn s H ⟨σ, F, Ed, Rl, q, k⟩ => ⟨hdG M X.N.length R Ed.rt l, fun er w F' H' c o g dk rp s' hl =>
      hh.takes hM k g dk rp hl (fun ro => hE er ro F' H' c o g dk rp) w, σ, F, Ed, Rl, q, k⟩⟩
theorem nbSum : bootBuiltins "sum" = some (.builtin "sum") := by decide +kernel
theorem nbAll : bootBuiltins "all" = some (.builtin "all") := by decide +kernel
theorem nbAny : bootBuiltins "any" = some (.builtin "any") := by decide +kernel
theorem finE_none {W : WT} {K : Kn} {F H : Hp} {E : XK} : FinE W K F H (fun _ => False) E := fun _ q => q.elim
/-! str -/
def strI (ds : List D) (Q : D → Prop) : Prop := ∃ i, ds = [.int i] ∧ i.natAbs < 10 ^ 4300 ∧ Q (.str (toString i))
@[simp] theorem strI_i (i : Int) (Q : D → Prop) : strI [.int i] Q = (i.natAbs < 10 ^ 4300 ∧ Q (.str (toString i))) := by simp [strI]
theorem c_strB (hc : X.calm = true) (hd : Dig X.K) : CallR X (.type "str") (LCa B X.kn strI) := fun pins s σ H vs us Q I rx ⟨F, ds, Qd, e, dk, r, ⟨i, ei, h1, h2⟩, k⟩ => by
  subst ei
  obtain ⟨v, rfl, r1⟩ := rb1 r
  cases r1.int
  obtain ⟨u, rfl, t, rfl⟩ := vals1 rx
  exact PyProof.Rows.str_of_int_or (I.ok.hd hc) (hd.at I.kIn) (fun _ => ⟨.str _, H, I.tok _, ⟨_, rfl⟩, k.here e dk h2 (.str _)⟩) fun z => absurd h1 (Nat.not_lt.mpr z)
end
/-! ### t[::-1], t a tuple that is not empty -/
section
variable {prog : Program} {w : World} {A : Around} {E : Value → Shared → Prop} {s : Shared}
theorem back_fields {sl : Addr} {v : Value} {n : Nat} {Q : Int × Int × Nat → Shared → Prop} (hs : s.heap.IsSliceOf sl .none .none v) (pv : IsPart v (some (-1))) (done : Q (((n : Int) - 1), -1, n) s) :
    wpAny (model prog w) A (Builtin.Slice.sliceApplied (.ref sl) (pure (n : Int))) Q E s := by
  obtain ⟨ob, at_sl, _, dat⟩ := id hs
  have places : Builtin.Slice.slicePlaces ((n : Int) - 1) (-1) (-1) = n := by
    unfold Builtin.Slice.slicePlaces
    rw [if_neg (by decide)]
    have e1 : (-(-1 : Int)) = 1 := by decide
    rw [e1, Int.ediv_one]
    split <;> omega
  unfold Builtin.Slice.sliceApplied Builtin.Slice.sliceFields
  refine wpAny_bind (wpAny_bind (wpAny_field at_sl dat (x := .none) rfl (wpAny_bind (wpAny_field at_sl dat (x := .none) rfl (wpAny_bind (wpAny_field at_sl dat (x := v) rfl (wpAny_pure ?_)))))))
  refine wpAny_bind (HT.slicePart_ pv ?_)
  show wpAny _ _ (if ((-1 : Int) == 0) = true then _ else _) _ _ s
  rw [if_neg (by decide)]
  refine wpAny_bind (HT.slicePart_ .none (wpAny_bind (HT.slicePart_ .none (wpAny_bind (wpAny_pure ?_)))))
  show wpAny _ _ (pure (((n : Int) - 1), (-1 : Int), Builtin.Slice.slicePlaces ((n : Int) - 1) (-1) (-1))) _ _ s
  rw [places]
  exact wpAny_pure done
theorem back_pick (xs : Array Value) : ((List.range xs.size).filterMap fun (m : Nat) => xs[(((xs.size : Int) - 1) + (m : Int) * -1).toNat]?) = xs.toList.reverse := by
  apply List.ext_getElem?
  intro i
  have all : ∀ m ∈ List.range xs.size, (fun (m : Nat) => xs[(((xs.size : Int) - 1) + (m : Int) * -1).toNat]?) m = (fun m => some (xs.toList.reverse.getD m .none)) m := fun m hm => by
    have h := List.mem_range.mp hm
    have e : (((xs.size : Int) - 1) + (m : Int) * -1).toNat = xs.size - 1 - m := by omega
    have hl : m < xs.toList.reverse.length := by simpa using h
    show xs[_]? = some (xs.toList.reverse.getD m .none)
    rw [e, List.getD_eq_getElem?_getD, List.getElem?_eq_getElem hl, Option.getD_some, List.getElem_reverse]
    simp
  have e2 : ∀ (l : List Nat) (f g : Nat → Option Value), (∀ m ∈ l, f m = g m) → l.filterMap f = l.filterMap g := fun l f g h => by
    induction l with
    | nil => rfl
    | cons x l ih => rw [List.filterMap_cons, List.filterMap_cons, h x List.mem_cons_self, ih fun m hm => h m (List.mem_cons_of_mem _ hm)]
  rw [e2 _ _ _ all]
  have e3 : ((List.range xs.size).filterMap fun m => some (xs.toList.reverse.getD m .none)) = (List.range xs.size).map fun m => xs.toList.reverse.getD m .none := by
    induction List.range xs.size with
    | nil => rfl
    | cons x l ih => rw [List.filterMap_cons, ih, List.map_cons]
  rw [e3, List.getElem?_map]
  by_cases h : i < xs.size
  · have hl : i < xs.toList.reverse.length := by simpa using h
    rw [List.getElem?_range h, Option.map_some, List.getD_eq_getElem?_getD, List.getElem?_eq_getElem hl, Option.getD_some]
  · rw [List.getElem?_eq_none (by simpa using h), List.getElem?_eq_none (by simpa using h), Option.map_none]
theorem item_back {t sl : Addr} {items : Array Value} {v : Value} {Q : Value → Shared → Prop} (ht : PyProof.Rows.IsTup s.heap t items) (hs : s.heap.IsSliceOf sl .none .none v) (pv : IsPart v (some (-1))) (fits : items.size ≤ sizeLine)
    (done : Q (.ref s.heap.objs.size) { s with heap := s.heap.push { cls := .type "tuple", data := .seq items.toList.reverse.toArray } }) : wpAny (model prog w) A (getItem (.ref t) (.ref sl)) Q E s := by
  have okSize : sizeOk (.seq items.toList.reverse.toArray) := by
    show items.toList.reverse.toArray.size ≤ sizeLine
    rw [List.size_toArray, List.length_reverse, Array.length_toList]
    exact fits
  obtain ⟨ob, at_sl, cl, _⟩ := id hs
  have isSl : s.TypeIs (.ref sl) "slice" := ⟨ob, at_sl, cl⟩
  unfold getItem
  try with_reducible refine wpAny_holding ?_
  first | refine wpAny_bind (wpAny_pure ?_) | skip
  refine wpAny_bind (wpAny_sequenceKey ht.typeIs (by decide) (wpAny_bind (wpAny_callSpecial?_slot (name := Str.ofString "__getitem__") ht.typeIs PyProof.Rows.slot_tuple_getitem (wpAny_call_entry PyProof.Rows.slot_tuple_getitem ht.typeIs PyProof.Rows.entry_tuple_getitem ?_ (PyProof.Rows.args_tuple_getitem _ _)))))
  show wpAny _ _ (Builtin.Tuple.tupleItemsOf (.ref t) >>= _) _ _ s
  refine wpAny_bind (PyProof.Rows.tupleItemsOf_ ht (wpAny_bind (wpAny_typeOf isSl ?_)))
  rw [if_pos (by decide)]
  refine wpAny_bind (back_fields hs pv ?_)
  show wpAny _ _ (if (((items.size : Int) - 1) == 0 && (-1 : Int) == 1 && items.size == items.size) = true then _ else _) _ _ s
  rw [if_neg (by simp), back_pick]
  first
    | exact wpAny_bind (m := Builtin.Tuple.tupleExact _) (wpAny_newObj_type (wpAny_pure ⟨_, rfl, wpAny_pure done⟩) okSize)
    | exact wpAny_bind (m := Builtin.Tuple.tupleExact _) (wpAny_newObj_type (wpAny_bind (wpAny_pure (wpAny_pure ⟨_, rfl, wpAny_pure done⟩))) okSize)
    | exact wpAny_bind (wpAny_bind (m := Builtin.Tuple.tupleExact _) (wpAny_newObj_type (wpAny_pure (wpAny_pure ⟨_, rfl, wpAny_pure done⟩)) okSize))
    | exact wpAny_bind (wpAny_bind (m := Builtin.Tuple.tupleExact _) (wpAny_newObj_type (wpAny_pure ⟨_, rfl, wpAny_pure done⟩) okSize))
end
end ND

/-! ND23: [::-1] of lists and tuples; dict displays; x, y = [..], e; the promise of nothing; the end of a law with tables -/
namespace ND
open PySem PySem.Spec L2
open PyProof.Rows
section
variable {B : Bs} {X : Cx} {e a b : Expr} {fa fb : GE} {pos : Pos}
/-! ### e[::-1] -/
def tRev2 (K : PySem.W.Frag) (te : TE) : TE := fun σ H Q => te σ H fun x H1 => ∃ a xs, x = .ref a ∧ ((SqL K H1 a xs ∧ ∀ p, H1 p = none → Q (.ref p) (upd H1 p (.lst xs.reverse))) ∨ (SqT K H1 a xs ∧ ∀ p, H1 p = none → Q (.ref p) (upd H1 p (.tup xs.reverse))))
theorem pe_rev2 {te : TE} {k : Nat} {p1 p2 p3 : Pos} (he : PE X e te) : PE X (.Subscript e (.Slice none none (some (.UnaryOp .USub (.Constant (.int 1) k p1) p2)) p3) pos) (tRev2 X.K te) := by
  refine ⟨fun pins s σ H Q I h => Subscript_ (thn (he.run pins s σ H _ I h) fun v s1 ⟨x, H1, I1, r1, a, xs, ex, q⟩ => ?_)⟩
  subst ex
  cases r1
  have minus : PO X (some (.UnaryOp .USub (.Constant (.int 1) k p1) p2)) (tPart (tUn (rU fun i => .int (-i)) (tC (.int 1)))) := po_some (pe_un un_neg pe_int)
  refine wpAny_Slice (thn (po_none.run pins s1 σ H1 (fun o G => o = none ∧ G = H1) I1 ⟨rfl, rfl⟩) fun vl s2 ⟨l, G2, I2, pl, el, e2⟩ => ?_)
  subst el e2
  refine thn (po_none.run pins s2 σ G2 (fun o G => o = none ∧ G = G2) I2 ⟨rfl, rfl⟩) fun vu s3 ⟨u, G3, I3, pu, eu, e3⟩ => ?_
  subst eu e3
  refine thn (minus.run pins s3 σ G3 (fun o G => o = some (-1) ∧ G = G3) I3 ⟨1, rfl, -1, rfl, rfl, rfl⟩) fun vs s4 ⟨o, G4, I4, ps, eo, e4⟩ => ?_
  subst eo e4
  have J : Inv X pins σ G4 { s4 with heap := s4.heap.push { cls := .type "slice", data := .fields #[vl, vu, vs] } } := I4.kept (t' := s4.toks) fun _ _ z => Heap.get?_push_of_some _ z
  show wpAny (model X.prog X.w) X.A (subscriptTail e (.Slice none none (some (.UnaryOp .USub (.Constant (.int 1) k p1) p2)) p3) (.ref a) (.ref s4.heap.objs.size)) (EP X pins σ Q) X.xe { s4 with heap := s4.heap.push { cls := .type "slice", data := .fields #[vl, vu, vs] } }
  rcases q with ⟨hx, q⟩ | ⟨hx, q⟩
  · obtain ⟨its, r, isL, fits⟩ := J.list hx
    have len := r.length
    refine tail_any (ops := [.ref a, .ref s4.heap.objs.size]) isL.isList.typeIs (PySem.slot_list_getitem.lookup) ?_ (by with_unfolding_all rfl)
    refine wpAny_getItem_list_slice isL.isList (Heap.IsSliceOf.new _ vl vu vs) pl pu ps (by decide) ?_ (by rw [List.size_toArray]; omega)
    rw [PySem.W.krv_pick]
    refine ⟨.ref _, _, J.laid (t' := s4.toks) (o := .lst xs.reverse) (fun _ _ z => Heap.get?_push_of_some _ z) (Nat.le_refl _) ⟨?_, _, 0, r.reverse, Heap.get?_push_size _ rfl⟩, rfl, q _ (J.hok.fresh (Nat.le_refl _))⟩
    rw [List.length_reverse]
    exact fits
  · obtain ⟨its, r, isT, fits⟩ := J.tuple hx
    have len := r.length
    cases pl
    cases pu
    refine tail_any (ops := [.ref a, .ref s4.heap.objs.size]) isT.typeIs (PyProof.Rows.slot_tuple_getitem.lookup) ?_ (by with_unfolding_all rfl)
    refine item_back isT (Heap.IsSliceOf.new _ .none .none vs) ps (by rw [List.size_toArray]; omega) ?_
    refine ⟨.ref _, _, J.laid (t' := s4.toks) (o := .tup xs.reverse) (fun _ _ z => Heap.get?_push_of_some _ z) (Nat.le_refl _) ⟨?_, _, r.reverse, ?_⟩, rfl, q _ (J.hok.fresh (Nat.le_refl _))⟩
    · rw [List.length_reverse]
      exact fits
    · exact IsTup.new _ _
def revD : D → (D → Prop) → Prop
  | .lst xs, Q => Q (.lst xs.reverse)
  | .tup xs, Q => Q (.tup xs.reverse)
  | _, _ => False
@[simp] theorem revD_l (xs : List D) (Q : D → Prop) : revD (.lst xs) Q = Q (.lst xs.reverse) := rfl
@[simp] theorem revD_t (xs : List D) (Q : D → Prop) : revD (.tup xs) Q = Q (.tup xs.reverse) := rfl
theorem ed_rev {k : Nat} {p1 p2 p3 : Pos} (ha : BD B X a fa) : ED B X (.Subscript a (.Slice none none (some (.UnaryOp .USub (.Constant (.int 1) k p1) p2)) p3) pos) (gUn revD fa) :=
  ⟨pe_imp (pe_rev2 ha.run) fun s H Q ⟨σ, F, Qd, R, q, kf⟩ => ⟨σ, F, _, R, q, fun x qx F1 H1 v g1 d1 r1 => by
    unfold revD at qx
    split at qx
    · obtain ⟨c, us, rfl, st, rs⟩ := r1.lst g1.fh
      exact ⟨c, us, rfl, .inl ⟨SqL.of st, fun p hp => (kf.more g1).frz g1.fh d1 qx hp (.lst upd_same (rs.reverse.mono (same_new (g1.fh.free hp))))⟩⟩
    · obtain ⟨c, us, rfl, _, st, rs⟩ := r1.tup g1.fh
      exact ⟨c, us, rfl, .inr ⟨st, fun p hp => (kf.more g1).frz g1.fh d1 qx hp (.tup (SqT.of upd_same) (rs.reverse.mono (same_new (g1.fh.free hp))))⟩⟩
    · exact qx.elim⟩⟩
/-! ### {} and {k: e}, k written -/
theorem ed_dic0 : ED B X (.Dict [] [] pos) (gC (.dic [])) :=
  ⟨pe_imp pe_dnewK fun s H Q ⟨σ, F, Qd, R, q, kf⟩ => fun d hd => kf.frz R.ex R.deck q hd (.dic upd_same .nil)⟩
@[simp] def gDic1 (k : Key) (fa : GE) (σ : List SV) (Q : D → Prop) : Prop := fa σ fun x => Q (.dic [(k, x)])
theorem ed_dic1 {kx vx : Expr} {k : Key} (hk : PE X kx (tC (kV k))) (ha : ED B X vx fa) : ED B X (.Dict [some kx] [vx] pos) (gDic1 k fa) :=
  ⟨pe_imp (pe_disp (pps_cons hk ha.run pps_nil) rfl rfl (by simp) (by simp)) fun s H Q ⟨σ, F, Qd, R, q, kf⟩ => fun p hp => by
    have R1 := R.grow (Grow.laid (o := .dK []) R.ex hp) (R.deck.laid hp)
    refine ⟨σ, F, _, R1, q, fun x qx F2 H2 v g2 d2 r2 => ?_⟩
    have fp : F p = none := R.ex.free hp
    have nw : ¬ InW B.W p := fun w => (R.deck.w w).2 hp
    have e2 : H2 p = some (.dK []) := g2.hh p _ upd_same nw (by intro _ z; cases z)
    have g := (Grow.laid (W := B.W) (o := .dK []) R.ex hp).trans g2
    have f2 : F2 p = none := g2.new p fp (by rw [upd_same]; exact Option.some_ne_none _)
    have em : mergeK [] [(k, v)] = [(k, v)] := by simp [mergeK, putK]
    refine ⟨e2, [(k, v)], rfl, by simp, ?_⟩
    rw [em]
    have gw := g.write (o := .dK [(k, v)]) hp f2
    have dw := R.deck.write (o := .dK [(k, v)]) d2 hp fun φ z => by rw [e2] at z; cases z
    exact kf _ qx _ _ _ (gw.freeze hp f2 upd_same) (R.deck.freeze dw hp) (.dic upd_same (.cons (r2.mono (same_new f2)) .nil))⟩
/-! ### x, y = [..], e -/
@[simp] def gParL (i j : Nat) (fs : GA) (fb : GE) (E : Ed) (σ : List SV) : Prop := fs σ fun ds => fb σ fun y => E.nx ((σ.set i (.ol ds)).set j (.d y))
theorem sd_parL {i j : Nat} {x y : Str} {px py pt : Pos} {kt k2 pt2} {fs : GA} (hc : X.calm = true) (hN : X.N.Nodup) (hi : X.N[i]? = some x) (hj : X.N[j]? = some y) (hij : i ≠ j)
    (hx : X.env.scope.names.lookup x = some .local) (hy : X.env.scope.names.lookup y = some .local) (ha : FD B X a fs) (hb : ED B X b fb)
    (hw : swappedStores [.Tuple [.Name x px, .Name y py] kt pt] (.Tuple [a, b] k2 pt2) X.env = pure (some [x, y]))
    (hs : swapsWithSole [.Tuple [.Name x px, .Name y py] kt pt] (.Tuple [a, b] k2 pt2) pos.line X.env = pure false := by rfl)
    (h1 : starEach [a, b] X.env = (false, eval a X.env) :: starEach [b] X.env := by rfl) (h2 : starEach [b] X.env = (false, eval b X.env) :: starEach [] X.env := by rfl) :
    SD B X (.Assign [.Tuple [.Name x px, .Name y py] kt pt] (.Tuple [a, b] k2 pt2) pos) (gParL i j fs fb) :=
  ⟨ps_imp (ps_par hc hN hi hj hij hx hy (pa_cons ha.run (pa_cons hb.run pa_nil h2) h1) hw hs) fun Dn s H ⟨σ, F, E, R, q, k⟩ => ⟨σ, F, _, R, q, fun ds qd F1 H1 p vs g1 d1 hp fp ep rs => by
    refine ⟨σ, F1, _, R.grow g1 d1, qd, fun y qy F2 H2 v g2 d2 r2 => ?_⟩
    have nw : ¬ InW B.W p := fun w => (R.deck.w w).2 hp
    have e2 : H2 p = some (.lst vs) := g2.hh p _ ep nw (by intro _ z; cases z)
    have f2 : F2 p = none := g2.new p fp (by rw [ep]; exact Option.some_ne_none _)
    have R2 := R.setNew (i := i) (x := .ol ds) (g1.trans g2) d2 hp f2 ⟨rfl, vs, e2, rs.mono g2.ff⟩
    exact ⟨_, _, rfl, k.nx _ _ F2 H2 (g1.trans g2).ff (R2.set r2) qy⟩⟩⟩
end
/-! ### the promise of nothing -/
section
variable {P : Program} {w : World} {K : PySem.W.Frag} {mg : Str → Option Value} {base : Heap} {T : List (Addr × Str)} {x : Str} {st : Stmt} {f : Addr} {fd : FuncData} {k : Nat} {ps : List Str}
theorem okNone (hm : mg x = some (.ref f)) (F : Fun K x x st f fd) : OkD P w K mg base T x st k ps (fun _ _ _ _ => False) :=
  ⟨⟨f, fd, hm, F, ⟨fun vs H Q E ⟨_, _, _, _, _, _, _, _, z, _⟩ => z.elim, fun A outer s H args us vs Q E _ _ _ _ ⟨_, _, _, _, _, _, _, _, z, _⟩ => z.elim⟩⟩⟩
end
end ND

/-! ND24: the end of a law whose defs make lambdas -/
namespace ND
open PySem PySem.Spec L2 PyProof.Rows
open PyProof.Rows (envOfC)
/-- the script and the tables are tracked -/
def tabH (K : PySem.W.Frag) (a : Addr) (o : Obj) (ns : List Int) (ts : List Addr) : Hp := fun b => if b ∈ ts then some (.tbl #[]) else scH K a o ns b
section
variable {K : PySem.W.Frag} {a b : Addr} {o : Obj} {ns : List Int} {ts : List Addr} {u : HO}
theorem tabH_in (h : b ∈ ts) : tabH K a o ns ts b = some (.tbl #[]) := if_pos h
theorem tabH_out (h : b ∉ ts) : tabH K a o ns ts b = scH K a o ns b := if_neg h
theorem tabH_some (h : tabH K a o ns ts b = some u) : (b ∈ ts ∧ u = .tbl #[]) ∨ (b ∉ ts ∧ b = a ∧ K.lookup a = none ∧ u = .frz o (.lst (ns.map V.int))) := by
  by_cases z : b ∈ ts
  · rw [tabH_in z] at h
    cases h
    exact .inl ⟨z, rfl⟩
  · rw [tabH_out z] at h
    exact .inr ⟨z, scH_some h⟩
end
theorem run_lawT {P : Program} {w : World} {K : PySem.W.Frag} {mg mb : Str → Option Value} {k : Nat} {fa a : Addr} {fd : FuncData} {x : Str} {sp : Sp} {t : Shared} {vs : List Value} {ns : List Int} {cs : List (Addr × Addr)}
    (KX : K.In t.heap) (nsM : t.heap.Ns mainGlobals mg) (nsB : t.heap.Ns builtinsNs mb) (bb : ∀ y : Str, y ≠ "__name__" → mb y = bootBuiltins y) (lim : t.heap.NoLimit) (gens : t.gens = #[])
    (tabs : ∀ p ∈ cs, t.heap.get? p.2 = some { cls := .none, data := .fields #[] }) (notK : ∀ p ∈ cs, K.lookup p.2 = none) (codes : ∀ p ∈ cs, PySem.W.CodeHd t.heap p.1 p.2)
    (blt : ∃ (bm : Addr) (ob : Obj), mg "__builtins__" = some (.ref bm) ∧ bm ≠ builtinsNs ∧ t.heap.get? bm = some ob ∧ ob.cls = .type "module" ∧ ob.dict = some builtinsNs ∧ ob.data = .plain)
    (ha : t.heap.get? a = some { cls := .type "list", data := .seq vs.toArray }) (hi : IntsAre vs ns) (hl : ns.length ≤ sizeLine) (room : Room k callerA)
    (G : ∀ base : Heap, K.In base → base.Ns mainGlobals mg → (∀ p ∈ cs, LamX.TabB base mg p.1 p.2) → FnG P w K mg base k fa fd [x] sp) (bind : ∀ (s : Shared) (u : Value), BindsTo s fd ⟨[u], []⟩ [(x, u)])
    (ask : ∀ H : Hp, SqL K H a (ns.map V.int) → (∀ p ∈ cs, H p.2 = some (.tbl #[])) → (∀ b ps, H b = some (.tbl ps) → ∃ p ∈ cs, b = p.2) → sp [.ref a] H (fun v _ => v = .bl true) fun _ _ _ => False) :
    codeAny (model P w) callerA (.call (.ref fa) ⟨[.ref a], []⟩) (fun r s' => r = .ok (.ret (.bool true)) ∧ OldK t.heap s'.heap ∧ s'.os = t.os ∧ AllBare s'.gens) t := by
  have vals := vals_ints hi
  have sameLen := hi.length
  have memT : ∀ p ∈ cs, p.2 ∈ cs.map (·.2) := fun p hp => List.mem_map.mpr ⟨p, hp, rfl⟩
  have isT : ∀ b ∈ cs.map (·.2), t.heap.get? b = some { cls := .none, data := .fields #[] } := fun b hb => by
    obtain ⟨p, hp, rfl⟩ := List.mem_map.mp hb
    exact tabs p hp
  have aT : a ∉ cs.map (·.2) := fun z => by
    have q := isT a z
    rw [ha] at q
    cases congrArg Obj.data (Option.some.inj q)
  generalize hH : tabH K a { cls := .type "list", data := .seq vs.toArray } ns (cs.map (·.2)) = H
  have inH : ∀ {b : Addr} {u : HO}, H b = some u → (b ∈ cs.map (·.2) ∧ u = .tbl #[]) ∨ (b ∉ cs.map (·.2) ∧ b = a ∧ K.lookup a = none ∧ u = .frz { cls := .type "list", data := .seq vs.toArray } (.lst (ns.map V.int))) := fun e => by
    rw [← hH] at e
    exact tabH_some e
  have atT : ∀ p ∈ cs, H p.2 = some (.tbl #[]) := fun p hp => by
    rw [← hH]
    exact tabH_in (memT p hp)
  have seqA : SqL K H a (ns.map V.int) := by
    cases ek : K.lookup a with
    | none =>
      refine .inl (.inr ⟨{ cls := .type "list", data := .seq vs.toArray }, ?_⟩)
      rw [← hH, tabH_out aT]
      unfold scH
      rw [if_pos ⟨rfl, ek⟩]
    | some o =>
      have same := KX a o ek
      rw [ha] at same
      cases same
      exact .inr ⟨_, vs.toArray, _, ek, rfl, rfl, rfl, by rw [List.size_toArray, sameLen]; exact hl, by simpa using vals⟩
  have okH : HOk P w H t.heap := fun b u e => by
    rcases inH e with ⟨z, rfl⟩ | ⟨_, rfl, _, rfl⟩
    · exact isT b z
    · exact ⟨ha, by rw [List.length_map]; exact hl, vs, _, vals, ha⟩
  -- what is no list, no table, is not tracked
  have plain : ∀ {b : Addr} {o : Obj}, t.heap.get? b = some o → (∀ xs n, o.data ≠ .seq xs n) → o.data ≠ .fields #[] → H b = none := fun {b o} e n1 n2 => by
    cases q : H b with
    | none => rfl
    | some u =>
      rcases inH q with ⟨z, _⟩ | ⟨_, rfl, _, _⟩
      · rw [isT b z] at e
        cases e
        exact absurd rfl n2
      · rw [ha] at e
        cases e
        exact absurd rfl (n1 _ _)
  have stays : ∀ {b : Addr} {o : Obj}, t.heap.get? b = some o → H b = none → (hidT t.heap H).get? b = some o := fun e n => hidT_get e n
  have nsStays : ∀ {b : Addr} {m : Str → Option Value}, t.heap.Ns b m → (hidT t.heap H).Ns b m := fun {b m} ⟨o, es, ep, e, dt, r⟩ =>
    ⟨o, es, ep, stays e (plain e (fun xs n z => by rw [dt] at z; cases z) fun z => by rw [dt] at z; cases z), dt, r⟩
  have kIn : K.In (hidT t.heap H) := fun b o e => stays (KX b o e) (by
    cases q : H b with
    | none => rfl
    | some u =>
      rcases inH q with ⟨z, _⟩ | ⟨_, rfl, n, _⟩
      · obtain ⟨p, hp, rfl⟩ := List.mem_map.mp z
        rw [notK p hp] at e
        cases e
      · rw [n] at e
        cases e)
  obtain ⟨mc, l1, l2⟩ := lim
  have tb : ∀ p ∈ cs, LamX.TabB (hidT t.heap H) mg p.1 p.2 := fun p hp => by
    have tp := tabs p hp
    have notG : mainGlobals ≠ p.2 := fun z => by
      obtain ⟨o, es, ep, e, dt, _⟩ := nsM
      rw [z, tp] at e
      cases e
      cases dt
    refine ⟨?_, ?_, notG⟩
    · obtain ⟨o, us, f1, f2, f3, f4, f5, f6, f7, g1, g2, g3, rest⟩ := codes p hp
      exact ⟨o, us, f1, f2, f3, f4, f5, f6, f7, stays g1 (plain g1 (fun xs n z => by rw [g3] at z; cases z) fun z => by
        rw [g3] at z
        cases z
        have := rest.1
        simp at this), g2, g3, rest⟩
    · obtain ⟨bm, ob, b1, b2, b3, b4, b5, b6⟩ := blt
      refine ⟨bm, ob, b1, b2, fun z => ?_, fun z => ?_, stays b3 (plain b3 (fun xs n z => by rw [b6] at z; cases z) fun z => by rw [b6] at z; cases z), b4, b5, b6⟩
      · obtain ⟨o, es, ep, e, dt, _⟩ := nsM
        rw [z, e] at b3
        cases b3
        rw [dt] at b6
        cases b6
      · rw [z, tp] at b3
        cases b3
        cases b6
  have env : Env0 P w K mg (hidT t.heap H) callerA [] t H := ⟨rfl, ⟨kIn, nsStays nsM, ⟨mb, nsStays nsB, bb⟩, mc, nsStays l1, l2⟩, fun b o e => of_hidT e, Nat.le_of_eq (hidT_size _ _), trivial, fun b hb => (nomatch hb), okH, .of_eq gens⟩
  have run := (G _ kIn (nsStays nsM) tb).run callerA [] t H ⟨[.ref a], []⟩ [.ref a] [.ref a] _ _ rfl room env (bind t (.ref a)) (.cons rfl .nil) (ask H seqA atT fun b ps e => by
    rcases inH e with ⟨z, _⟩ | ⟨_, _, _, z⟩
    · obtain ⟨p, hp, rfl⟩ := List.mem_map.mp z
      exact ⟨p, hp, rfl⟩
    · cases z)
  refine codeAny_mono run fun r s' h => ?_
  rcases r with e | fl
  · obtain ⟨_, _, _, _, _, _, _, _, _, _, _, _, no⟩ := (show L2.CX P w [] H t (fun _ _ _ => False) e s' from h)
    exact no.elim
  · cases fl with
    | ret u =>
      obtain ⟨v, H', os, bare, un, hok', r', q⟩ := h
      have q' : v = .bl true := q
      subst q'
      obtain rfl : u = Value.bool true := r'
      have grown : ∀ p ∈ cs, ∃ more : Array Value, s'.heap.get? p.2 = some { cls := .none, data := .fields more } := fun p hp => by
        obtain ⟨more, z⟩ := un.tbls p.2 #[] (atT p hp)
        exact ⟨_, hok' p.2 _ z⟩
      have same : ∀ b o, b ∉ cs.map (·.2) → t.heap.get? b = some o → s'.heap.get? b = some o := fun b o nb e => by
        cases q : H b with
        | none => exact un.keep b o e q (fun z => (nomatch z)) (by simp)
        | some u =>
          rcases inH q with ⟨z, _⟩ | ⟨_, rfl, _, rfl⟩
          · exact absurd z nb
          · obtain ⟨g1, _⟩ := hok' b _ (un.frzs b _ _ q)
            rw [ha] at e
            cases e
            exact g1
      refine ⟨rfl, ⟨fun b o e => ?_, fun b o e => ?_⟩, os, bare⟩
      · by_cases hb : b ∈ cs.map (·.2)
        · obtain ⟨p, hp, rfl⟩ := List.mem_map.mp hb
          obtain ⟨more, hm⟩ := grown p hp
          rw [tabs p hp] at e
          cases e
          exact .inr (.inl ⟨((codes p hp).tab (tabs p hp)).isCodeTable, rfl, #[], more, rfl, by rw [Array.empty_append]; exact hm⟩)
        · exact .inl (same b o hb e)
      · by_cases hb : b ∈ cs.map (·.2)
        · obtain ⟨p, hp, rfl⟩ := List.mem_map.mp hb
          obtain ⟨more, hm⟩ := grown p hp
          exact ⟨_, hm⟩
        · exact ⟨o, same b o hb e⟩
    | next => exact False.elim h
    | brk => exact False.elim h
    | cont => exact False.elim h
theorem walkGT {l : PySem.W.OpenLaw} {k : Nat} {q : Program} {loose : List Str} {XP : (Str → Option Value) → Heap → Prop} {YP : World → Heap → Prop} {d : DefRec} {K : Params → PySem.W.Frag} {x : Str}
    (hn : l.most = some 63) (hdf : d.params.defaults = []) (hr : Room k callerA) (hY : ∀ (w : World) (h : Heap), YP w h → (K w.params).In h)
    (G : ∀ (w : World) (mg mb : Str → Option Value) (fa : Addr) (h : Heap), YP w h → (K w.params).In h → h.Ns mainGlobals mg → mg d.name = some (.ref fa) →
      (∀ (d : DefRec) (x : Str) (c Pt : Addr), (recsOf q).find? (fun e => e.name == x) = some d → PySem.W.tabIn (K w.params) x = some (c, Pt) → PySem.W.CodeHd h c Pt ∧ h.get? Pt = some { cls := .none, data := .fields #[] }) →
      ∃ (fd : FuncData) (T : List (Addr × Addr × Str)), (∀ p ∈ T, h.get? p.2.1 = some { cls := .none, data := .fields #[] } ∧ (K w.params).lookup p.2.1 = none ∧ PySem.W.CodeHd h p.1 p.2.1) ∧ (∀ (s : Shared) (u : Value), BindsTo s fd ⟨[u], []⟩ [(x, u)]) ∧
        ∀ base : Heap, (K w.params).In base → base.Ns mainGlobals mg → (∀ p ∈ T, LamX.TabB base mg p.1 p.2.1) → FnG l.prog w (K w.params) mg base k fa fd [x] (spLaw (K w.params) (T.map fun p => (p.2.1, p.2.2)))) :
    PySem.W.WalkO q loose XP YP l.row.toRowW d [] (fun f vs => PySem.call f vs) := by
  refine Att.attach_callB hn hdf fun w s₀ t mg mb fa o pm cd doc a vs ns Gd Y ho hd hcd hmg hobj hints hlen hbits hg => ?_
  have inK := hY w _ Y
  obtain ⟨fd, T, hT, bind, run⟩ := G w mg mb fa _ Y inK Gd.T.g hmg fun d x c Pt h1 h2 => PySem.W.tab_of Gd.T inK h1 h2
  have up : ∀ p ∈ T.map (fun p => (p.1, p.2.1)), ∃ z ∈ T, p = (z.1, z.2.1) := fun p hp => by
    obtain ⟨z, hz, e⟩ := List.mem_map.mp hp
    exact ⟨z, hz, e.symm⟩
  refine run_lawT (cs := T.map fun p => (p.1, p.2.1)) inK Gd.T.g Gd.T.b Gd.T.builtins Gd.T.nolimit hg (fun p hp => ?_) (fun p hp => ?_) (fun p hp => ?_) Gd.T.bmain hobj hints (Nat.le_trans hlen (by decide)) hr (fun base b1 b2 b3 => run base b1 b2 fun p hp => b3 (p.1, p.2.1) (List.mem_map.mpr ⟨p, hp, rfl⟩)) bind
    fun H hS hA hO => ⟨a, ns, rfl, hS, hlen, fun z hz => ?_, fun b ps e => ?_, fun _ => rfl⟩
  · obtain ⟨z, hz, rfl⟩ := up p hp
    exact (hT z hz).1
  · obtain ⟨z, hz, rfl⟩ := up p hp
    exact (hT z hz).2.1
  · obtain ⟨z, hz, rfl⟩ := up p hp
    exact (hT z hz).2.2
  · obtain ⟨p, hp, rfl⟩ := List.mem_map.mp hz
    exact hA (p.1, p.2.1) (List.mem_map.mpr ⟨p, hp, rfl⟩)
  · obtain ⟨p, hp, rfl⟩ := hO b ps e
    obtain ⟨z, hz, rfl⟩ := up p hp
    exact ⟨(z.2.1, z.2.2), List.mem_map.mpr ⟨z, hz, rfl⟩, rfl⟩
end ND

/-! ND25: defs that make lambdas (their code object is known); small rules for the plain laws -/
namespace ND
open PySem PySem.Spec L2
open PyProof.Rows (envOfC)
/-- the def st stands at f, its code object is cdv -/
structure FunC (K : PySem.W.Frag) (x : Str) (st : Stmt) (f : Addr) (cdv : Value) : Prop where
  ex : ∃ (oc kV doc pm ct : Value) (od an : Option Addr) (osl : Array (Option Value)), K.lookup f = some ⟨oc, od, .func (PySem.W.fnOf x x (defArgs st) (defBody st) (defScope st) .none kV doc pm an cdv ct), osl⟩ ∧ PySem.W.codeIn K cdv x = true
  kp : PySem.W.keepIn K (.ref f) = true
section
variable {P : Program} {w : World} {K : PySem.W.Frag} {mg : Str → Option Value} {base : Heap} {x : Str} {st : Stmt} {f : Addr} {N ps : List Str} {k : Nat} {sp : DSp} {g : WD → (Er → Prop) → GS} {T : List (Addr × Str)} {cdv : Value}
theorem okGc (hm : mg x = some (.ref f)) (F : FunC K x st f cdv) (S : FnScope N ps (defScope st)) (hlen : ∀ W ds Q R, sp W ds Q R → ds.length = ps.length)
    (body : ∀ (A : Around) (outer : List Env) (s : Shared) (H : Hp) (E : XK) (W : WD) (F : Hp) (R : Er → Prop), (A.deeper (envOfC x (defScope st) s.heap.objs.size f cdv)).guards = some [] → Room k (A.deeper (envOfC x (defScope st) s.heap.objs.size f cdv)) → FinE ⟨W, T⟩ ⟨K, mg⟩ F H R E →
      PassesOwn (model P w) (cxD P w K mg base N x st f cdv A outer s H E).A (cxD P w K mg base N x st f cdv A outer s H E).env (cxD P w K mg base N x st f cdv A outer s H E).xe →
      Passes (L2.CX P w) (cxD P w K mg base N x st f cdv A outer s H E) E → SDs ⟨⟨W, T⟩, F, H⟩ (cxD P w K mg base N x st f cdv A outer s H E) (defBody st) (g W R))
    (law : ∀ W ds Q R, sp W ds Q R → g W R (endsD Q) (startD N.length ds)) : OkG P w K mg base T x st (k + 1) ps sp := by
  obtain ⟨oc, kV, doc, pm, ct, od, an, osl, lk, hcd⟩ := F.ex
  refine ⟨⟨f, _, hm, fun_mk lk hcd F.kp, fn_ofG lk hcd S (fun vs H Q E ⟨W, F, ds, Qd, Rd, h1, h2, h3, h4, _⟩ => h3.length.trans (hlen _ _ _ _ h4)) fun A outer s H vs Q E hG hr ⟨W, F, ds, Qd, Rd, h1, h2, h3, h4, h5, h6⟩ => ?_⟩⟩
  exact body_run (body A outer s H E W F Rd hG hr h6 (passes_of rfl) (passes_call (takes_of rfl rfl rfl rfl) fun _ _ _ _ z => z)) h1 h2 h3 (law W ds Qd Rd h4) h5
end
section
variable {B : Bs} {X : Cx} {e : Expr} {pos : Pos}
theorem sd_appE {k : Nat} {x : Str} {px apos cpos : Pos} {fe : GE} (hv : PE X (.Name x px) (tVar k)) (ha : ED B X e fe) (hbase : attributeBase (.Name x px) "append" X.env (eval (.Name x px) X.env) = eval (.Name x px) X.env := by rfl)
    (hfew : ((backTo cpos (starEach [e] X.env)).all (fun x => !x.1) && (backToKw cpos (keywordEach [] X.env)).all (fun x => x.1.isSome) && decide ([e].length + ([] : List Keyword).length + (if ([] : List Keyword).isEmpty then 0 else 1) < 30)) = true := by rfl)
    (hline : (apos.endLine == cpos.line) = true := by rfl) (hs1 : starEach [e] X.env = (false, eval e X.env) :: starEach [] X.env := by rfl) (hplain : (backTo cpos (starEach [] X.env)).any (·.1) = false := by rfl)
    (hs : swapsWith (.Call (.Attribute (.Name x px) "append" apos) [e] [] cpos) none pos.line X.env = pure false := by rfl) : SD B X (.Expr (.Call (.Attribute (.Name x px) "append" apos) [e] [] cpos) pos) (gApp k fe) :=
  sd_app (pe_bm PySem.F.plainAttrs_list PySem.F.slot_list_append PySem.F.type_list_append mt_append hv (pa_cons ha.run pa_nil hs1) hbase hfew hline hs1 hplain) hs
end
end ND

/-! ND26: plain facts that many laws need: sizes, draws, digits, data that can be shown -/
namespace ND
open PySem PySem.Spec L2
abbrev dkD (d : Addr) : D := .opq (.ref d)
def Sz (n : Nat) (i : Int) : Prop := i.natAbs < 2 ^ n
instance (n : Nat) (i : Int) : Decidable (Sz n i) := inferInstanceAs (Decidable (_ < _))
theorem Sz.mono {n m : Nat} {i : Int} (h : Sz n i) (e : n ≤ m) : Sz m i := Nat.lt_of_lt_of_le h (Nat.pow_le_pow_right (by decide) e)
theorem Sz.mul {n m : Nat} {i j : Int} (h : Sz n i) (h' : Sz m j) : Sz (n + m) (i * j) := by
  show (i * j).natAbs < 2 ^ (n + m)
  rw [Int.natAbs_mul, Nat.pow_add]
  exact Nat.mul_lt_mul'' h h'
theorem Sz.add {n : Nat} {i j : Int} (h : Sz n i) (h' : Sz n j) : Sz (n + 1) (i + j) := by
  have h1 : i.natAbs < 2 ^ n := h
  have h2 : j.natAbs < 2 ^ n := h'
  show (i + j).natAbs < 2 ^ (n + 1)
  rw [Nat.pow_succ]
  omega
theorem Sz.neg {n : Nat} {i : Int} (h : Sz n i) : Sz n (-i) := by
  show (-i).natAbs < 2 ^ n
  rw [Int.natAbs_neg]
  exact h
theorem Sz.sub {n : Nat} {i j : Int} (h : Sz n i) (h' : Sz n j) : Sz (n + 1) (i - j) := by
  rw [Int.sub_eq_add_neg]
  exact h.add h'.neg
theorem Sz.log {n : Nat} {i : Int} (h : Sz n i) : i.natAbs.log2 ≤ n := by
  by_cases e : i.natAbs = 0
  · rw [e]
    simp
  · exact Nat.le_of_lt ((Nat.log2_lt e).mpr h)
theorem Sz.ok {n m : Nat} {i j : Int} (h : Sz n i) (h' : Sz m j) (e : n + m < 1000000) : MulOk i j := by
  have := h.log
  have := h'.log
  show i.natAbs.log2 + j.natAbs.log2 < 1000000
  omega
theorem dr {d l : Addr} {k : Int} {Q : D → Prop} {R : Er → Prop} (h1 : 0 < k) (h2 : k < 2 ^ 62) (q : ∀ r, 0 ≤ r → r < k → Q (.int r)) : spDraw (some (d, l)) [dkD d, .int k] Q R := ⟨d, l, k, rfl, rfl, h1, h2, q⟩
theorem e62 : (2 : Int) ^ 62 = 4611686018427387904 := by decide
theorem Sz.small {i : Int} (h1 : -1000 ≤ i) (h2 : i ≤ 1000) : Sz 20 i := by
  show i.natAbs < 2 ^ 20
  omega
theorem sz_nat {n : Nat} (h : n ≤ 1000) : Sz 20 (n : Int) := Sz.small (by omega) (by omega)
theorem cat_nines (acc : Array Nat) : ∀ m : Nat, ((List.replicate m (Str.ofString "9").cps).foldl (· ++ ·) acc).toList = acc.toList ++ List.replicate m 57
  | 0 => by simp
  | m + 1 => by
    rw [List.replicate_succ, List.foldl_cons, cat_nines (acc ++ (Str.ofString "9").cps) m]
    have e : (Str.ofString "9").cps.toList = [57] := by decide +kernel
    rw [Array.toList_append, e, List.replicate_succ, List.append_assoc]
    rfl
theorem digits_lt : ∀ (cs : List Nat) (a : Nat), NumText.AllDigits cs → cs.foldl (fun acc c => acc * 10 + (c - 48)) a < (a + 1) * 10 ^ cs.length
  | [], a, _ => by simp
  | c :: cs, a, h => by
    have hc := h.head
    have ih := digits_lt cs (a * 10 + (c - 48)) h.tail
    rw [List.foldl_cons, List.length_cons]
    refine Nat.lt_of_lt_of_le ih ?_
    rw [Nat.pow_succ, Nat.mul_comm (10 ^ cs.length) 10, ← Nat.mul_assoc]
    exact Nat.mul_le_mul_right _ (by omega)
theorem nine_list {k : Nat} (hk : 1 ≤ k) : (Txt.mul (Str.ofString "9") (k : Int)).cps.toList = List.replicate k 57 := by
  unfold Txt.mul
  rw [if_neg (by omega)]
  split
  · rename_i h
    have e0 : (Str.ofString "9").length = 1 := by decide +kernel
    rw [e0] at h
    simp at h
    have : k = 1 := by omega
    subst this
    decide +kernel
  · rw [Int.toNat_natCast]
    show ((List.replicate k (Str.ofString "9").cps).foldl (· ++ ·) #[]).toList = _
    rw [cat_nines]
    simp
theorem nine_text {k : Nat} (hk : 1 ≤ k) (h : k ≤ 1020) : ∃ i : Int, intText? (Txt.mul (Str.ofString "9") (k : Int)) = some i ∧ (Txt.mul (Str.ofString "9") (k : Int)).length ≤ sizeLine ∧ 0 ≤ i ∧ i < 10 ^ k := by
  have e := nine_list hk
  have hl : (Txt.mul (Str.ofString "9") (k : Int)).length = k := by
    show (Txt.mul (Str.ofString "9") (k : Int)).cps.size = k
    rw [← Array.length_toList, e, List.length_replicate]
  have hd : NumText.AllDigits (Txt.mul (Str.ofString "9") (k : Int)).cps.toList := by
    rw [e]
    intro c hc
    rw [List.eq_of_mem_replicate hc]
    omega
  have hne : (Txt.mul (Str.ofString "9") (k : Int)).cps.toList ≠ [] := by
    rw [e]
    intro z
    have := congrArg List.length z
    simp at this
    omega
  have ht := intText_digits hd hne (by rw [hl]; omega)
  refine ⟨_, ht, by rw [hl]; exact Nat.le_trans h (by decide), Int.natCast_nonneg _, ?_⟩
  have hv := digits_lt _ 0 hd
  have el : (Txt.mul (Str.ofString "9") (k : Int)).cps.toList.length = k := by rw [e, List.length_replicate]
  rw [el, Nat.zero_add, Nat.one_mul] at hv
  have h2 : ((10 : Int) ^ k) = (((10 : Nat) ^ k : Nat) : Int) := by simp
  rw [h2]
  exact Int.ofNat_lt.mpr hv
theorem ten_sz {k : Nat} {i : Int} (h0 : 0 ≤ i) (h : i < 10 ^ (6 * k)) : Sz (20 * k) i := by
  have e : (10 : Nat) ^ (6 * k) ≤ 2 ^ (20 * k) := by
    rw [Nat.pow_mul, Nat.pow_mul]
    exact Nat.pow_le_pow_left (by decide) k
  show i.natAbs < 2 ^ (20 * k)
  have h2 : ((10 : Int) ^ (6 * k)) = (((10 : Nat) ^ (6 * k) : Nat) : Int) := by simp
  rw [h2] at h
  omega

theorem rps_all (n : Nat) : ∀ xs : List D, rps n xs = xs.all (rp n)
  | [] => by simp [rps]
  | x :: xs => by simp [rps, rps_all n xs]
mutual
theorem rp_mono : ∀ (n m : Nat) (d : D), n ≤ m → rp n d = true → rp m d = true
  | n, m, .non, _, _ => by cases m <;> simp [rp]
  | n, m, .bl b, _, _ => by cases m <;> simp [rp]
  | n, m, .int b, _, _ => by cases m <;> simp [rp]
  | n, m, .str x, _, h => by cases n <;> cases m <;> simpa [rp] using h
  | 0, m, .tup xs, _, h => by simp [rp] at h
  | 0, m, .lst xs, _, h => by simp [rp] at h
  | 0, m, .dic xs, _, h => by simp [rp] at h
  | n + 1, 0, .tup xs, e, h => absurd e (by omega)
  | n + 1, 0, .lst xs, e, h => absurd e (by omega)
  | n + 1, 0, .dic xs, e, h => absurd e (by omega)
  | n + 1, m + 1, .tup xs, e, h => by
    simp only [rp] at h ⊢
    exact rps_mono n m xs (by omega) h
  | n + 1, m + 1, .lst xs, e, h => by
    simp only [rp] at h ⊢
    exact rps_mono n m xs (by omega) h
  | n + 1, m + 1, .dic xs, e, h => by
    simp only [rp] at h ⊢
    exact rpk_mono n m xs (by omega) h
  | n, m, .obj _ _, _, h => by cases n <;> simp [rp] at h
  | n, m, .opq _, _, h => by cases n <;> simp [rp] at h
theorem rps_mono : ∀ (n m : Nat) (d : List D), n ≤ m → rps n d = true → rps m d = true
  | n, m, [], _, _ => by simp [rps]
  | n, m, x :: xs, e, h => by
    simp only [rps, Bool.and_eq_true] at h ⊢
    exact ⟨rp_mono n m x e h.1, rps_mono n m xs e h.2⟩
theorem rpk_mono : ∀ (n m : Nat) (d : List (Key × D)), n ≤ m → rpk n d = true → rpk m d = true
  | n, m, [], _, _ => by simp [rpk]
  | n, m, (.inl k, x) :: xs, e, h => by
    simp only [rpk, Bool.and_eq_true] at h ⊢
    exact ⟨rp_mono n m x e h.1, rpk_mono n m xs e h.2⟩
  | n, m, (.inr k, x) :: xs, e, h => by
    simp only [rpk, Bool.and_eq_true] at h ⊢
    exact ⟨⟨h.1.1, rp_mono n m x e h.1.2⟩, rpk_mono n m xs e h.2⟩
end
theorem rp_ty {n : Nat} {x : D} (h : rp n x = true) : (tyD x).isSome = true := by
  cases x <;> simp [tyD] <;> cases n <;> simp [rp] at h
mutual
/-- integers within are below m -/
def sm (m : Nat) : D → Bool
  | .int i => decide (i.natAbs < m)
  | .tup xs => sms m xs
  | .lst xs => sms m xs
  | .dic xs => smk m xs
  | _ => true
def sms (m : Nat) : List D → Bool
  | [] => true
  | x :: xs => sm m x && sms m xs
def smk (m : Nat) : List (Key × D) → Bool
  | [] => true
  | (.inl k, x) :: xs => decide (k.natAbs < m) && sm m x && smk m xs
  | (.inr k, x) :: xs => sm m x && smk m xs
end
theorem sms_all (n : Nat) : ∀ xs : List D, sms n xs = xs.all (sm n)
  | [] => by simp [sms]
  | x :: xs => by simp [sms, sms_all n xs]
mutual
theorem sm_mono : ∀ (n m : Nat) (d : D), n ≤ m → sm n d = true → sm m d = true
  | n, m, .non, _, _ => by simp [sm]
  | n, m, .bl b, _, _ => by simp [sm]
  | n, m, .int b, e, h => by
    simp only [sm, decide_eq_true_eq] at h ⊢
    omega
  | n, m, .str x, _, h => by simp [sm]
  | n, m, .tup xs, e, h => by
    simp only [sm] at h ⊢
    exact sms_mono n m xs e h
  | n, m, .lst xs, e, h => by
    simp only [sm] at h ⊢
    exact sms_mono n m xs e h
  | n, m, .dic xs, e, h => by
    simp only [sm] at h ⊢
    exact smk_mono n m xs e h
  | n, m, .obj _ _, _, h => by simp [sm]
  | n, m, .opq _, _, h => by simp [sm]
theorem sms_mono : ∀ (n m : Nat) (d : List D), n ≤ m → sms n d = true → sms m d = true
  | n, m, [], _, _ => by simp [sms]
  | n, m, x :: xs, e, h => by
    simp only [sms, Bool.and_eq_true] at h ⊢
    exact ⟨sm_mono n m x e h.1, sms_mono n m xs e h.2⟩
theorem smk_mono : ∀ (n m : Nat) (d : List (Key × D)), n ≤ m → smk n d = true → smk m d = true
  | n, m, [], _, _ => by simp [smk]
  | n, m, (.inl k, x) :: xs, e, h => by
    simp only [smk, Bool.and_eq_true, decide_eq_true_eq] at h ⊢
    exact ⟨⟨Nat.lt_of_lt_of_le h.1.1 e, sm_mono n m x e h.1.2⟩, smk_mono n m xs e h.2⟩
  | n, m, (.inr k, x) :: xs, e, h => by
    simp only [smk, Bool.and_eq_true] at h ⊢
    exact ⟨sm_mono n m x e h.1, smk_mono n m xs e h.2⟩
end
mutual
theorem sm_big : ∀ (d : D), sm (10 ^ 4300) d = true → bigOk (toPy d) = true
  | .non, _ => by simp [toPy, bigOk]
  | .bl b, _ => by simp [toPy, bigOk]
  | .int b, h => by simpa only [sm, toPy, bigOk] using h
  | .str x, h => by simp [toPy, bigOk]
  | .tup xs, h => by
    simp only [sm, toPy, bigOk] at h ⊢
    exact sms_big xs h
  | .lst xs, h => by
    simp only [sm, toPy, bigOk] at h ⊢
    exact sms_big xs h
  | .dic xs, h => by
    simp only [sm, toPy, bigOk] at h ⊢
    exact smk_big xs h
  | .obj _ _, h => by simp [toPy, bigOk]
  | .opq _, h => by simp [toPy, bigOk]
theorem sms_big : ∀ (d : List D), sms (10 ^ 4300) d = true → bigAll (toPys d) = true
  | [], _ => by simp [toPys, bigAll]
  | x :: xs, h => by
    simp only [sms, toPys, bigAll, Bool.and_eq_true] at h ⊢
    exact ⟨sm_big x h.1, sms_big xs h.2⟩
theorem smk_big : ∀ (d : List (Key × D)), smk (10 ^ 4300) d = true → bigKv (toPyK d) = true
  | [], _ => by simp [toPyK, bigKv]
  | (.inl k, x) :: xs, h => by
    simp only [smk, toPyK, bigKv, bigOk, Bool.and_eq_true] at h ⊢
    exact ⟨⟨h.1.1, sm_big x h.1.2⟩, smk_big xs h.2⟩
  | (.inr k, x) :: xs, h => by
    simp only [smk, toPyK, bigKv, bigOk, Bool.and_eq_true] at h ⊢
    exact ⟨⟨trivial, sm_big x h.1⟩, smk_big xs h.2⟩
end
/-- data at most n deep, integers below 2 ^ m, a repr of at most s signs -/
structure Pok (n m s : Nat) (x : D) : Prop where
  r : rp n x = true
  b : sm (2 ^ m) x = true
  z : rsz x ≤ s
theorem Pok.up {n m s n' m' s' : Nat} {x : D} (h : Pok n m s x) (e1 : n ≤ n') (e2 : m ≤ m') (e3 : s ≤ s') : Pok n' m' s' x := ⟨rp_mono _ _ _ e1 h.r, sm_mono _ _ _ (Nat.pow_le_pow_right (by decide) e2) h.b, Nat.le_trans h.z e3⟩
theorem Pok.ty {n m s : Nat} {x : D} (h : Pok n m s x) : (tyD x).isSome = true := rp_ty h.r
theorem pw4300 : (2 : Nat) ^ 14000 ≤ 10 ^ 4300 := by decide +kernel
theorem Pok.rok {n m s : Nat} {x : D} (h : Pok n m s x) (e1 : n ≤ 64) (e2 : m ≤ 14000) (e3 : s ≤ 16000000) (nd : isDct (toPy x) = false) : Rok x :=
  ⟨rp_mono _ _ _ e1 h.r, nd, sm_big _ (sm_mono _ _ _ (Nat.le_trans (Nat.pow_le_pow_right (by decide) e2) pw4300) h.b), Nat.le_trans h.z e3⟩
theorem pok_tup {n m : Nat} {xs : List D} (h1 : rps n xs = true) (h2 : sms (2 ^ m) xs = true) : Pok (n + 1) m (rszs xs + 3) (.tup xs) := ⟨by simpa only [rp] using h1, by simpa only [sm] using h2, by simp [rsz]⟩
theorem pok_lst {n m : Nat} {xs : List D} (h1 : rps n xs = true) (h2 : sms (2 ^ m) xs = true) : Pok (n + 1) m (rszs xs + 3) (.lst xs) := ⟨by simpa only [rp] using h1, by simpa only [sm] using h2, by simp [rsz]⟩
theorem Sz.sm {n : Nat} {i : Int} (h : Sz n i) : sm (2 ^ n) (.int i) = true := by
  simp only [ND.sm, decide_eq_true_eq]
  exact h
theorem pok_int {m : Nat} {i : Int} (h : Sz m i) : Pok 0 m 4301 (.int i) := ⟨by simp [rp], h.sm, by simp [rsz]⟩
theorem ints5 : intsFrom 0 5 = [.int 0, .int 1, .int 2, .int 3, .int 4] := rfl
def look3 (l : List (Str × Str × Bool)) (a b : Str) : Option Bool := (l.find? fun e => e.1 == a && e.2.1 == b).map fun e => e.2.2
theorem look3_mem {l : List (Str × Str × Bool)} {a b : Str} {r : Bool} (h : look3 l a b = some r) : (a, b, r) ∈ l := by
  unfold look3 at h
  obtain ⟨⟨x, y, z⟩, e, rfl⟩ := Option.map_eq_some_iff.mp h
  have h1 := List.find?_some e
  simp only [Bool.and_eq_true, beq_iff_eq] at h1
  obtain ⟨rfl, rfl⟩ := h1
  exact List.mem_of_find?_eq_some e
theorem tabIn_of {K : PySem.W.Frag} {x : Str} {f c P : Addr} {fd : FuncData} {oc tc : Value} {od td : Option Addr} {sl ts : Array (Option Value)} {tv : Array Value} (a : PySem.W.nsIn K mainGlobals x = some (some (.ref f))) (l : K.lookup f = some ⟨oc, od, .func fd, sl⟩)
    (hc : fd.code = .ref c) (t : K.lookup c = some ⟨tc, td, .fields tv, ts⟩) (e : tv[11]? = some (.ref P)) : PySem.W.tabIn K x = some (c, P) := by
  unfold PySem.W.tabIn
  simp only [a, l, hc, t, e]
end ND

/-! ND27: a shown text has good signs -/
namespace ND
open PySem PySem.Spec L2 PySem.Builtin.Str
def Good (x : Str) : Prop := ∀ c ∈ x.cps.toList, c < 0x110000
theorem good_iff {x : Str} : PyData.strOk x = true ↔ Good x := by
  unfold PyData.strOk Good
  rw [← Array.all_toList, List.all_eq_true]
  exact ⟨fun h c m => of_decide_eq_true (h c m), fun h c m => decide_eq_true (h c m)⟩
theorem Good.app {x y : Str} (h : Good x) (k : Good y) : Good (x ++ y) := fun c m => by
  have e : (x ++ y).cps.toList = x.cps.toList ++ y.cps.toList := by
    show (x.cps ++ y.cps).toList = _
    exact Array.toList_append
  rw [e] at m
  exact (List.mem_append.mp m).elim (h c) (k c)
theorem good_of (s : String) : Good (Str.ofString s) := fun c m => by
  rw [Str.ofString_eq_toList] at m
  obtain ⟨a, _, rfl⟩ := List.mem_map.mp (by simpa using m)
  have := a.valid
  simp only [UInt32.isValidChar, Nat.isValidChar] at this
  show a.val.toNat < 0x110000
  omega
theorem good_join {s : Str} (h : Good s) : ∀ ts : List Str, (∀ t ∈ ts, Good t) → Good (Str.join s ts)
  | [], _ => fun c m => by simp [Str.join, Str.empty] at m
  | [x], k => k x (List.mem_singleton_self _)
  | x :: y :: r, k => ((k x List.mem_cons_self).app h).app (good_join h (y :: r) fun t m => k t (List.mem_cons_of_mem _ m))
theorem good_from : ∀ (ts : List Str) (k : Nat) (acc : Str), Good acc → (∀ t ∈ ts, Good t) → Good (textFrom k acc ts)
  | [], _, _, h, _ => h
  | t :: r, k, acc, h, z => good_from r (k + 1) _ ((h.app (good_of _)).app (z t List.mem_cons_self)) fun u m => z u (List.mem_cons_of_mem _ m)
theorem digits_good (w c d : Nat) (m : d ∈ List.replicate (w - ((Nat.toDigits 16 c).map Char.toNat).length) 48 ++ (Nat.toDigits 16 c).map Char.toNat) : d < 0x110000 := by
  rcases List.mem_append.mp m with h | h
  · rw [List.eq_of_mem_replicate h]
    decide
  · obtain ⟨a, _, rfl⟩ := List.mem_map.mp h
    have := a.valid
    simp only [UInt32.isValidChar, Nat.isValidChar] at this
    show a.val.toNat < 0x110000
    omega
theorem reprChar_good {q c : Nat} (hq : q < 0x110000) (hc : c < 0x110000) : ∀ d ∈ Builtin.Str.reprChar q c, d < 0x110000 := by
  intro d m
  unfold Builtin.Str.reprChar at m
  dsimp only at m
  repeat' split at m
  all_goals first
    | (simp only [List.mem_cons, List.not_mem_nil, or_false] at m; omega)
    | (rcases List.mem_append.mp m with h | h
       · simp only [List.mem_cons, List.not_mem_nil, or_false] at h
         omega
       · exact digits_good _ _ _ h)
theorem foldl_good {q : Nat} (hq : q < 0x110000) : ∀ (l : List Nat) (acc : Array Nat), (∀ c ∈ l, c < 0x110000) → (∀ c ∈ acc.toList, c < 0x110000) → ∀ c ∈ (l.foldl (fun out c => out ++ (Builtin.Str.reprChar q c).toArray) acc).toList, c < 0x110000
  | [], acc, _, h => h
  | x :: r, acc, k, h => foldl_good hq r _ (fun c m => k c (List.mem_cons_of_mem _ m)) fun c m => by
    rw [Array.toList_append] at m
    rcases List.mem_append.mp m with z | z
    · exact h c z
    · exact reprChar_good hq (k x List.mem_cons_self) c (by simpa using z)
theorem reprText_good {x : Str} (h : Good x) : Good (reprText x) := fun c m => by
  have hq : reprQuote x < 0x110000 := by
    unfold reprQuote
    split <;> decide
  unfold reprText at m
  simp only [Array.toList_push, List.mem_append, List.mem_singleton, ← Array.foldl_toList] at m
  rcases m with m | m
  · refine foldl_good hq x.cps.toList _ h (fun d z => ?_) c m
    simp at z
    omega
  · omega
theorem good_tuple {ts : List Str} (h : ∀ t ∈ ts, Good t) : Good (tupleText ts) := by
  unfold tupleText
  exact ((good_of _).app (good_join (good_of _) ts h)).app (good_of _)
theorem good_list {ts : List Str} (h : ∀ t ∈ ts, Good t) : Good (listText ts) := (good_from ts 0 _ (good_of _) h).app (good_of _)
theorem good_dict {ts : List Str} (h : ∀ t ∈ ts, Good t) : Good (dictText ts) := by
  unfold dictText
  exact ((good_of _).app (good_join (good_of _) ts h)).app (good_of _)
mutual
theorem shown_good : ∀ (n : Nat) (d : D), rp n d = true → Good (toPy d).shown
  | _, .non, _ => good_of "None"
  | _, .bl b, _ => by
    cases b
    · exact good_of "False"
    · exact good_of "True"
  | _, .int i, _ => by
    simp only [toPy, PyData.shown]
    exact good_of _
  | n, .str x, h => by
    simp only [toPy, PyData.shown]
    exact reprText_good (good_iff.mp (by cases n <;> simpa only [rp] using h))
  | 0, .tup xs, h => by simp [rp] at h
  | 0, .lst xs, h => by simp [rp] at h
  | 0, .dic xs, h => by simp [rp] at h
  | n + 1, .tup xs, h => by
    simp only [toPy, PyData.shown]
    exact good_tuple (shownAll_good n xs (by simpa only [rp] using h))
  | n + 1, .lst xs, h => by
    simp only [toPy, PyData.shown]
    exact good_list (shownAll_good n xs (by simpa only [rp] using h))
  | n + 1, .dic xs, h => by
    simp only [toPy, PyData.shown]
    exact good_dict (shownKv_good n xs (by simpa only [rp] using h))
  | n, .obj _ _, h => by simp [rp] at h
  | n, .opq _, h => by simp [rp] at h
theorem shownAll_good : ∀ (n : Nat) (xs : List D), rps n xs = true → ∀ t ∈ PyData.shownAll (toPys xs), Good t
  | _, [], _ => fun t m => by simp [toPys, PyData.shownAll] at m
  | n, x :: xs, h => by
    simp only [rps, Bool.and_eq_true] at h
    intro t m
    simp only [toPys, PyData.shownAll, List.mem_cons] at m
    rcases m with rfl | m
    · exact shown_good n x h.1
    · exact shownAll_good n xs h.2 t m
theorem shownKv_good : ∀ (n : Nat) (xs : List (Key × D)), rpk n xs = true → ∀ t ∈ PyData.shownKv (toPyK xs), Good t
  | _, [], _ => fun t m => by simp [toPyK, PyData.shownKv] at m
  | n, (.inl k, x) :: xs, h => by
    simp only [rpk, Bool.and_eq_true] at h
    intro t m
    simp only [toPyK, PyData.shownKv, List.mem_cons] at m
    rcases m with rfl | m
    · exact (Good.app (by simp only [PyData.shown]; exact good_of _) (good_of _)).app (shown_good n x h.1)
    · exact shownKv_good n xs h.2 t m
  | n, (.inr k, x) :: xs, h => by
    simp only [rpk, Bool.and_eq_true] at h
    intro t m
    simp only [toPyK, PyData.shownKv, List.mem_cons] at m
    rcases m with rfl | m
    · exact (Good.app (by simp only [PyData.shown]; exact reprText_good (good_iff.mp h.1.1)) (good_of _)).app (shown_good n x h.1.2)
    · exact shownKv_good n xs h.2 t m
end
/-- the text of a repr can be shown too -/
theorem Pok.text {n m s : Nat} {x : D} (h : Pok n m s x) (e1 : n ≤ 64) (e2 : m ≤ 14000) (e3 : s ≤ 1500000) : Rok (.str (toPy x).shown) := by
  have hl : (toPy x).shown.length ≤ rsz x := shown_rsz _ _ h.r (sm_big _ (sm_mono _ _ _ (Nat.le_trans (Nat.pow_le_pow_right (by decide) e2) pw4300) h.b))
  refine ⟨?_, by simp [toPy, isDct], by simp [toPy, bigOk], ?_⟩
  · simp only [rp]
    exact good_iff.mpr (shown_good _ _ h.r)
  · simp only [rsz]
    have := h.z
    have e : (toPy x).shown.length = (toPy x).shown.cps.size := rfl
    omega
@[simp] theorem szl0 : (0 < sizeLine) = True := eq_true (by decide)
@[simp] theorem sze0 : (0 ≤ sizeLine) = True := eq_true (by decide)
@[simp] theorem szl1 : (1 < sizeLine) = True := eq_true (by decide)
@[simp] theorem sze1 : (1 ≤ sizeLine) = True := eq_true (by decide)
@[simp] theorem szl2 : (2 < sizeLine) = True := eq_true (by decide)
@[simp] theorem sze2 : (2 ≤ sizeLine) = True := eq_true (by decide)
@[simp] theorem szl3 : (3 < sizeLine) = True := eq_true (by decide)
@[simp] theorem sze3 : (3 ≤ sizeLine) = True := eq_true (by decide)
@[simp] theorem szl4 : (4 < sizeLine) = True := eq_true (by decide)
@[simp] theorem sze4 : (4 ≤ sizeLine) = True := eq_true (by decide)
@[simp] theorem szl5 : (5 < sizeLine) = True := eq_true (by decide)
@[simp] theorem sze5 : (5 ≤ sizeLine) = True := eq_true (by decide)
@[simp] theorem szl6 : (6 < sizeLine) = True := eq_true (by decide)
@[simp] theorem sze6 : (6 ≤ sizeLine) = True := eq_true (by decide)
@[simp] theorem szl7 : (7 < sizeLine) = True := eq_true (by decide)
@[simp] theorem sze7 : (7 ≤ sizeLine) = True := eq_true (by decide)
@[simp] theorem szl8 : (8 < sizeLine) = True := eq_true (by decide)
@[simp] theorem sze8 : (8 ≤ sizeLine) = True := eq_true (by decide)
@[simp] theorem szl9 : (9 < sizeLine) = True := eq_true (by decide)
@[simp] theorem sze9 : (9 ≤ sizeLine) = True := eq_true (by decide)
@[simp] theorem szl10 : (10 < sizeLine) = True := eq_true (by decide)
@[simp] theorem sze10 : (10 ≤ sizeLine) = True := eq_true (by decide)
@[simp] theorem szl11 : (11 < sizeLine) = True := eq_true (by decide)
@[simp] theorem sze11 : (11 ≤ sizeLine) = True := eq_true (by decide)
@[simp] theorem szl12 : (12 < sizeLine) = True := eq_true (by decide)
@[simp] theorem sze12 : (12 ≤ sizeLine) = True := eq_true (by decide)
@[simp] theorem szl13 : (13 < sizeLine) = True := eq_true (by decide)
@[simp] theorem sze13 : (13 ≤ sizeLine) = True := eq_true (by decide)
@[simp] theorem szl14 : (14 < sizeLine) = True := eq_true (by decide)
@[simp] theorem sze14 : (14 ≤ sizeLine) = True := eq_true (by decide)
@[simp] theorem szl15 : (15 < sizeLine) = True := eq_true (by decide)
@[simp] theorem sze15 : (15 ≤ sizeLine) = True := eq_true (by decide)
@[simp] theorem szl16 : (16 < sizeLine) = True := eq_true (by decide)
@[simp] theorem sze16 : (16 ≤ sizeLine) = True := eq_true (by decide)
@[simp] theorem szl17 : (17 < sizeLine) = True := eq_true (by decide)
@[simp] theorem sze17 : (17 ≤ sizeLine) = True := eq_true (by decide)
@[simp] theorem szl18 : (18 < sizeLine) = True := eq_true (by decide)
@[simp] theorem sze18 : (18 ≤ sizeLine) = True := eq_true (by decide)
@[simp] theorem szl19 : (19 < sizeLine) = True := eq_true (by decide)
@[simp] theorem sze19 : (19 ≤ sizeLine) = True := eq_true (by decide)
@[simp] theorem szl20 : (20 < sizeLine) = True := eq_true (by decide)
@[simp] theorem sze20 : (20 ≤ sizeLine) = True := eq_true (by decide)
@[simp] theorem szl21 : (21 < sizeLine) = True := eq_true (by decide)
@[simp] theorem sze21 : (21 ≤ sizeLine) = True := eq_true (by decide)
@[simp] theorem szl22 : (22 < sizeLine) = True := eq_true (by decide)
@[simp] theorem sze22 : (22 ≤ sizeLine) = True := eq_true (by decide)
@[simp] theorem szl23 : (23 < sizeLine) = True := eq_true (by decide)
@[simp] theorem sze23 : (23 ≤ sizeLine) = True := eq_true (by decide)
@[simp] theorem szl24 : (24 < sizeLine) = True := eq_true (by decide)
@[simp] theorem sze24 : (24 ≤ sizeLine) = True := eq_true (by decide)
@[simp] theorem szl25 : (25 < sizeLine) = True := eq_true (by decide)
@[simp] theorem sze25 : (25 ≤ sizeLine) = True := eq_true (by decide)
@[simp] theorem szl26 : (26 < sizeLine) = True := eq_true (by decide)
@[simp] theorem sze26 : (26 ≤ sizeLine) = True := eq_true (by decide)
@[simp] theorem szl27 : (27 < sizeLine) = True := eq_true (by decide)
@[simp] theorem sze27 : (27 ≤ sizeLine) = True := eq_true (by decide)
@[simp] theorem szl28 : (28 < sizeLine) = True := eq_true (by decide)
@[simp] theorem sze28 : (28 ≤ sizeLine) = True := eq_true (by decide)
@[simp] theorem szl29 : (29 < sizeLine) = True := eq_true (by decide)
@[simp] theorem sze29 : (29 ≤ sizeLine) = True := eq_true (by decide)
@[simp] theorem szl30 : (30 < sizeLine) = True := eq_true (by decide)
@[simp] theorem sze30 : (30 ≤ sizeLine) = True := eq_true (by decide)
@[simp] theorem szl31 : (31 < sizeLine) = True := eq_true (by decide)
@[simp] theorem sze31 : (31 ≤ sizeLine) = True := eq_true (by decide)
@[simp] theorem szl32 : (32 < sizeLine) = True := eq_true (by decide)
@[simp] theorem sze32 : (32 ≤ sizeLine) = True := eq_true (by decide)
@[simp] theorem szl33 : (33 < sizeLine) = True := eq_true (by decide)
@[simp] theorem sze33 : (33 ≤ sizeLine) = True := eq_true (by decide)
@[simp] theorem szl34 : (34 < sizeLine) = True := eq_true (by decide)
@[simp] theorem sze34 : (34 ≤ sizeLine) = True := eq_true (by decide)
@[simp] theorem szl35 : (35 < sizeLine) = True := eq_true (by decide)
@[simp] theorem sze35 : (35 ≤ sizeLine) = True := eq_true (by decide)
@[simp] theorem szl36 : (36 < sizeLine) = True := eq_true (by decide)
@[simp] theorem sze36 : (36 ≤ sizeLine) = True := eq_true (by decide)
@[simp] theorem szl37 : (37 < sizeLine) = True := eq_true (by decide)
@[simp] theorem sze37 : (37 ≤ sizeLine) = True := eq_true (by decide)
@[simp] theorem szl38 : (38 < sizeLine) = True := eq_true (by decide)
@[simp] theorem sze38 : (38 ≤ sizeLine) = True := eq_true (by decide)
@[simp] theorem szl39 : (39 < sizeLine) = True := eq_true (by decide)
@[simp] theorem sze39 : (39 ≤ sizeLine) = True := eq_true (by decide)
@[simp] theorem szl40 : (40 < sizeLine) = True := eq_true (by decide)
@[simp] theorem sze40 : (40 ≤ sizeLine) = True := eq_true (by decide)
@[simp] theorem szl41 : (41 < sizeLine) = True := eq_true (by decide)
@[simp] theorem sze41 : (41 ≤ sizeLine) = True := eq_true (by decide)
@[simp] theorem szl42 : (42 < sizeLine) = True := eq_true (by decide)
@[simp] theorem sze42 : (42 ≤ sizeLine) = True := eq_true (by decide)
@[simp] theorem szl43 : (43 < sizeLine) = True := eq_true (by decide)
@[simp] theorem sze43 : (43 ≤ sizeLine) = True := eq_true (by decide)
@[simp] theorem szl44 : (44 < sizeLine) = True := eq_true (by decide)
@[simp] theorem sze44 : (44 ≤ sizeLine) = True := eq_true (by decide)
@[simp] theorem szl45 : (45 < sizeLine) = True := eq_true (by decide)
@[simp] theorem sze45 : (45 ≤ sizeLine) = True := eq_true (by decide)
@[simp] theorem szl46 : (46 < sizeLine) = True := eq_true (by decide)
@[simp] theorem sze46 : (46 ≤ sizeLine) = True := eq_true (by decide)
@[simp] theorem szl47 : (47 < sizeLine) = True := eq_true (by decide)
@[simp] theorem sze47 : (47 ≤ sizeLine) = True := eq_true (by decide)
@[simp] theorem szl48 : (48 < sizeLine) = True := eq_true (by decide)
@[simp] theorem sze48 : (48 ≤ sizeLine) = True := eq_true (by decide)
@[simp] theorem szl49 : (49 < sizeLine) = True := eq_true (by decide)
@[simp] theorem sze49 : (49 ≤ sizeLine) = True := eq_true (by decide)
@[simp] theorem szl50 : (50 < sizeLine) = True := eq_true (by decide)
@[simp] theorem sze50 : (50 ≤ sizeLine) = True := eq_true (by decide)
@[simp] theorem szl51 : (51 < sizeLine) = True := eq_true (by decide)
@[simp] theorem sze51 : (51 ≤ sizeLine) = True := eq_true (by decide)
@[simp] theorem szl52 : (52 < sizeLine) = True := eq_true (by decide)
@[simp] theorem sze52 : (52 ≤ sizeLine) = True := eq_true (by decide)
@[simp] theorem szl53 : (53 < sizeLine) = True := eq_true (by decide)
@[simp] theorem sze53 : (53 ≤ sizeLine) = True := eq_true (by decide)
@[simp] theorem szl54 : (54 < sizeLine) = True := eq_true (by decide)
@[simp] theorem sze54 : (54 ≤ sizeLine) = True := eq_true (by decide)
@[simp] theorem szl55 : (55 < sizeLine) = True := eq_true (by decide)
@[simp] theorem sze55 : (55 ≤ sizeLine) = True := eq_true (by decide)
@[simp] theorem szl56 : (56 < sizeLine) = True := eq_true (by decide)
@[simp] theorem sze56 : (56 ≤ sizeLine) = True := eq_true (by decide)
@[simp] theorem szl57 : (57 < sizeLine) = True := eq_true (by decide)
@[simp] theorem sze57 : (57 ≤ sizeLine) = True := eq_true (by decide)
@[simp] theorem szl58 : (58 < sizeLine) = True := eq_true (by decide)
@[simp] theorem sze58 : (58 ≤ sizeLine) = True := eq_true (by decide)
@[simp] theorem szl59 : (59 < sizeLine) = True := eq_true (by decide)
@[simp] theorem sze59 : (59 ≤ sizeLine) = True := eq_true (by decide)
@[simp] theorem szl60 : (60 < sizeLine) = True := eq_true (by decide)
@[simp] theorem sze60 : (60 ≤ sizeLine) = True := eq_true (by decide)
@[simp] theorem szl61 : (61 < sizeLine) = True := eq_true (by decide)
@[simp] theorem sze61 : (61 ≤ sizeLine) = True := eq_true (by decide)
@[simp] theorem szl62 : (62 < sizeLine) = True := eq_true (by decide)
@[simp] theorem sze62 : (62 ≤ sizeLine) = True := eq_true (by decide)
@[simp] theorem szl63 : (63 < sizeLine) = True := eq_true (by decide)
@[simp] theorem sze63 : (63 ≤ sizeLine) = True := eq_true (by decide)
@[simp] theorem szl64 : (64 < sizeLine) = True := eq_true (by decide)
@[simp] theorem sze64 : (64 ≤ sizeLine) = True := eq_true (by decide)
@[simp] theorem szl65 : (65 < sizeLine) = True := eq_true (by decide)
@[simp] theorem sze65 : (65 ≤ sizeLine) = True := eq_true (by decide)
@[simp] theorem szl66 : (66 < sizeLine) = True := eq_true (by decide)
@[simp] theorem sze66 : (66 ≤ sizeLine) = True := eq_true (by decide)
@[simp] theorem szl67 : (67 < sizeLine) = True := eq_true (by decide)
@[simp] theorem sze67 : (67 ≤ sizeLine) = True := eq_true (by decide)
@[simp] theorem szl68 : (68 < sizeLine) = True := eq_true (by decide)
@[simp] theorem sze68 : (68 ≤ sizeLine) = True := eq_true (by decide)
@[simp] theorem szl69 : (69 < sizeLine) = True := eq_true (by decide)
@[simp] theorem sze69 : (69 ≤ sizeLine) = True := eq_true (by decide)
theorem ixn_in {n : Nat} {i : Int} (h0 : 0 ≤ i) (h1 : i < n) : ixN n i = some i.toNat := by simp [ixN, h0, h1]
@[simp] theorem ix_t0 (a : D) (r : List D) (Q : D → Prop) : ixD (.tup (a :: r)) (.int 0) Q = Q a := by simp [ixD, atI, ixN]
@[simp] theorem ix_t1 (a b : D) (r : List D) (Q : D → Prop) : ixD (.tup (a :: b :: r)) (.int 1) Q = Q b := by
  have h : (1 : Int) < (r.length : Int) + 1 + 1 := by omega
  simp [ixD, atI, ixN, h]
@[simp] theorem ix_t2 (a b c : D) (r : List D) (Q : D → Prop) : ixD (.tup (a :: b :: c :: r)) (.int 2) Q = Q c := by
  have h : (2 : Int) < (r.length : Int) + 1 + 1 + 1 := by omega
  simp [ixD, atI, ixN, h]
@[simp] theorem ix_l0 (a : D) (r : List D) (Q : D → Prop) : ixD (.lst (a :: r)) (.int 0) Q = Q a := by simp [ixD, atI, ixN]
@[simp] theorem ix_l1 (a b : D) (r : List D) (Q : D → Prop) : ixD (.lst (a :: b :: r)) (.int 1) Q = Q b := by
  have h : (1 : Int) < (r.length : Int) + 1 + 1 := by omega
  simp [ixD, atI, ixN, h]
@[simp] theorem ix_l2 (a b c : D) (r : List D) (Q : D → Prop) : ixD (.lst (a :: b :: c :: r)) (.int 2) Q = Q c := by
  have h : (2 : Int) < (r.length : Int) + 1 + 1 + 1 := by omega
  simp [ixD, atI, ixN, h]
end ND

/-! ND28: what an expression is, where it can be only one thing -/
namespace ND
open PySem PySem.Spec L2
structure Ev (σ : List SV) (f : GE) (x : D) : Prop where
  run : ∀ Q : D → Prop, Q x → f σ Q
structure EvA (σ : List SV) (f : GA) (x : List D) : Prop where
  run : ∀ Q : List D → Prop, Q x → f σ Q
section
variable {σ : List SV} {f g : GE} {fs : GA} {x y : D} {xs ys : List D} {i j : Int}
theorem Ev.c : Ev σ (gC x) x := ⟨fun _ q => q⟩
theorem Ev.var {n : Nat} (h : σ[n]? = some (.d x)) : Ev σ (gVar n) x := ⟨fun Q q => by
  unfold gVar
  rw [h]
  exact q⟩
theorem EvA.nil : EvA σ ND.gNil [] := ⟨fun _ q => q⟩
theorem EvA.cons (h : Ev σ f x) (k : EvA σ fs xs) : EvA σ (ND.gCons f fs) (x :: xs) := ⟨fun Q q => h.run _ (k.run _ q)⟩
theorem Ev.tup (h : EvA σ fs xs) (hl : xs.length ≤ sizeLine) : Ev σ (ND.gTup fs) (.tup xs) := ⟨fun Q q => h.run _ ⟨hl, q⟩⟩
theorem Ev.lst (h : EvA σ fs xs) (hl : xs.length ≤ sizeLine) : Ev σ (gFrz (gLst fs)) (.lst xs) := ⟨fun Q q => h.run _ ⟨hl, q⟩⟩
theorem Ev.neg (h : Ev σ f (.int i)) : Ev σ (gUn negD f) (.int (-i)) := ⟨fun Q q => h.run _ q⟩
theorem Ev.rev (h : Ev σ f (.tup xs)) : Ev σ (gUn revD f) (.tup xs.reverse) := ⟨fun Q q => h.run _ q⟩
theorem Ev.dic {k : Key} (h : Ev σ f x) : Ev σ (gDic1 k f) (.dic [(k, x)]) := ⟨fun Q q => h.run _ q⟩
theorem Ev.addL (h : Ev σ f (.lst xs)) (k : Ev σ g (.lst ys)) (hl : xs.length + ys.length ≤ sizeLine) : Ev σ (gBin addD f g) (.lst (xs ++ ys)) := ⟨fun Q q => h.run _ (k.run _ ⟨hl, q⟩)⟩
theorem Ev.addT (h : Ev σ f (.tup xs)) (k : Ev σ g (.tup ys)) (hl : xs.length + ys.length ≤ sizeLine) : Ev σ (gBin addD f g) (.tup (xs ++ ys)) := ⟨fun Q q => h.run _ (k.run _ ⟨hl, q⟩)⟩
theorem Ev.addI (h : Ev σ f (.int i)) (k : Ev σ g (.int j)) : Ev σ (gBin addD f g) (.int (i + j)) := ⟨fun Q q => h.run _ (k.run _ q)⟩
theorem Ev.subI (h : Ev σ f (.int i)) (k : Ev σ g (.int j)) : Ev σ (gBin subD f g) (.int (i - j)) := ⟨fun Q q => h.run _ (k.run _ q)⟩
theorem Ev.eqI (h : Ev σ f (.int i)) (k : Ev σ g (.int j)) : Ev σ (gBin eqD f g) (.bl (decide (i = j))) := ⟨fun Q q => h.run _ (k.run _ (by rw [eqD_i]; exact q))⟩
theorem Ev.mul3 (h : Ev σ f (.lst xs)) (hl : xs.length * 3 ≤ sizeLine) : Ev σ (gBin mulD f (gC (.int 3))) (.lst (xs ++ (xs ++ (xs ++ [])))) := ⟨fun Q q => h.run _ ⟨by decide, by decide, hl, q⟩⟩
theorem Ev.listT (h : Ev σ f (.tup xs)) : Ev σ (gFrz (gBltF listD (ND.gCons f ND.gNil))) (.lst xs) := ⟨fun Q q => h.run _ q⟩
theorem Ev.slLo (h : Ev σ f (.tup xs)) (k : Ev σ g (.int i)) : Ev σ (gSl slD f (gPart g) gNoPart) (.tup (cutG xs (some i) none)) := ⟨fun Q q => h.run _ (k.run _ ⟨i, rfl, q⟩)⟩
theorem Ev.slHi (h : Ev σ f (.tup xs)) (k : Ev σ g (.int i)) : Ev σ (gSl slD f gNoPart (gPart g)) (.tup (cutG xs none (some i))) := ⟨fun Q q => h.run _ (k.run _ ⟨i, rfl, q⟩)⟩
theorem Ev.strI (h : Ev σ f (.int i)) (hi : i.natAbs < 10 ^ 4300) : Ev σ (gBlt ND.strI (ND.gCons f ND.gNil)) (.str (toString i)) := ⟨fun Q q => h.run _ ⟨i, rfl, hi, q⟩⟩
theorem Ev.nines {k : Int} {n : Int} (h0 : 1 ≤ k) (e : intText? (Txt.mul (Str.ofString "9") k) = some n) (hl : (Txt.mul (Str.ofString "9") k).length ≤ sizeLine) (hk : (Str.ofString "9").length * k.toNat ≤ sizeLine) : Ev σ (gBlt intB (ND.gCons (gBin repS (gC (.str "9")) (gC (.int k))) ND.gNil)) (.int n) :=
  ⟨fun Q q => ⟨h0, hk, by decide, n, e, hl, q⟩⟩
theorem Ev.isi {T : String} {b : Bool} (h : Ev σ f x) (hk : knownT T = true) (hs : (tyD x).isSome = true) (hb : isiB T x = b) : Ev σ (gBlt isiD (ND.gCons f (ND.gCons (gC (.opq (.ty T))) ND.gNil))) (.bl b) := ⟨fun Q q => h.run _ ⟨hk, hs, by rw [hb]; exact q⟩⟩
variable {s s' : GS} {E : Ed}
theorem ifS_t (h : Ev σ f (.bl true)) (q : s E σ) : gIfS (gTru f) s s' E σ := h.run _ (by simpa using q)
theorem ifS_f (h : Ev σ f (.bl false)) (q : s' E σ) : gIfS (gTru f) s s' E σ := h.run _ (by simpa using q)
theorem seq_set {k : Nat} (h : Ev σ f x) (q : s E (σ.set k (.d x))) : gSeq (gSet k f) s E σ := h.run _ q
theorem seq_t {t : GS} (h : Ev σ f (.bl true)) (q : gSeq s t E σ) : gSeq (gIfS (gTru f) s s') t E σ := h.run _ (by simpa using q)
theorem seq_f {t : GS} (h : Ev σ f (.bl false)) (q : gSeq s' t E σ) : gSeq (gIfS (gTru f) s s') t E σ := h.run _ (by simpa using q)
theorem cut_mem {xs : List D} {a b : Option Int} {y : D} (m : y ∈ cutG xs a b) : y ∈ xs := List.mem_of_mem_drop (List.mem_of_mem_take m)
theorem cut_len (xs : List D) (a b : Option Int) : (cutG xs a b).length ≤ xs.length := by
  unfold cutG
  simp only [List.length_take, List.length_drop]
  omega
theorem pok_text {m : Nat} {i : Int} (h : i.natAbs < 10 ^ 4300) : Pok 0 m 50000 (.str (toString i)) := by
  refine ⟨?_, by simp [sm], ?_⟩
  · simp only [rp]
    exact good_iff.mpr (good_of _)
  · have e := int_text_length_le10 (k := 4300) (by decide) h
    have e2 : (Str.ofString (toString i)).length = (toString i).length := ofString_length _
    have e3 : (Str.ofString (toString i)).length = (Str.ofString (toString i)).cps.size := rfl
    simp only [rsz]
    omega
end
end ND

/-! ND29: zip of two tuples or two lists -/
namespace ND
open PySem PySem.Spec L2
section
variable {B : Bs} {X : Cx} {e e2 : Expr} {pos : Pos}
def zipL (xs ys : List D) : List D := List.zipWith (fun x y => .tup [x, y]) xs ys
theorem zipL_at {xs ys : List D} {i : Nat} {d : D} (h : (zipL xs ys)[i]? = some d) : ∃ x y, xs[i]? = some x ∧ ys[i]? = some y ∧ d = .tup [x, y] := by
  unfold zipL at h
  rw [List.getElem?_zipWith] at h
  cases hx : xs[i]? with
  | none => simp [hx] at h
  | some x =>
    cases hy : ys[i]? with
    | none => simp [hx, hy] at h
    | some y =>
      simp [hx, hy] at h
      exact ⟨x, y, rfl, rfl, h.symm⟩
theorem itOk_zipT {K : Kn} {a b : Addr} {vs us : List V} {xs ys : List D} {F : Hp} (h : SqT K.K F a vs) (r : Reps K F vs xs) (h2 : SqT K.K F b us) (r2 : Reps K F us ys) : ItOk B K (RZ.ItzT K.K a b) (zipL xs ys) F := by
  refine ⟨fun F' H' i d e1 e2 dk hd => ?_, fun F' H' i e1 e2 hi => ⟨vs, us, same_t e2 (same_t e1 h), same_t e2 (same_t e1 h2), by
    rw [r.length, r2.length]
    simp only [zipL, List.length_zipWith] at hi
    omega⟩⟩
  obtain ⟨x, y, hx, hy, rfl⟩ := zipL_at hd
  have ha : SqT K.K H' a vs := same_t e2 (same_t e1 h)
  have hb : SqT K.K H' b us := same_t e2 (same_t e1 h2)
  obtain ⟨v, hv, rv⟩ := r.get hx
  obtain ⟨u, hu, ru⟩ := r2.get hy
  refine ⟨⟨vs, us, v, u, ha, hb, hv, hu⟩, fun z H'' ⟨T, v', u', e, hT, eH, fv, fu⟩ => ?_⟩
  subst e eH
  have z1 := fv vs ha
  rw [hv] at z1
  cases z1
  have z2 := fu us hb
  rw [hu] at z2
  cases z2
  have fT := e2.free hT
  exact ⟨_, Grow.frz e2 hT, dk.frz hT, .tup (SqT.of upd_same) (.cons ((rv.mono e1).mono (same_new fT)) (.cons ((ru.mono e1).mono (same_new fT)) .nil))⟩
theorem itOk_zipL {K : Kn} {a b : Addr} {vs us : List V} {xs ys : List D} {F : Hp} (h : F a = some (.lst vs)) (r : Reps K F vs xs) (h2 : F b = some (.lst us)) (r2 : Reps K F us ys) : ItOk B K (Itz K.K a b) (zipL xs ys) F := by
  refine ⟨fun F' H' i d e1 e2 dk hd => ?_, fun F' H' i e1 e2 hi => ⟨vs, us, SqL.of (e2 _ _ (e1 _ _ h)), SqL.of (e2 _ _ (e1 _ _ h2)), by
    rw [r.length, r2.length]
    simp only [zipL, List.length_zipWith] at hi
    omega⟩⟩
  obtain ⟨x, y, hx, hy, rfl⟩ := zipL_at hd
  have ha : SqL K.K H' a vs := SqL.of (e2 _ _ (e1 _ _ h))
  have hb : SqL K.K H' b us := SqL.of (e2 _ _ (e1 _ _ h2))
  obtain ⟨v, hv, rv⟩ := r.get hx
  obtain ⟨u, hu, ru⟩ := r2.get hy
  refine ⟨⟨vs, us, v, u, ha, hb, hv, hu⟩, fun z H'' ⟨T, v', u', e, hT, eH, fv, fu⟩ => ?_⟩
  subst e eH
  have z1 := fv vs ha
  rw [hv] at z1
  cases z1
  have z2 := fu us hb
  rw [hu] at z2
  cases z2
  have fT := e2.free hT
  exact ⟨_, Grow.frz e2 hT, dk.frz hT, .tup (SqT.of upd_same) (.cons ((rv.mono e1).mono (same_new fT)) (.cons ((ru.mono e1).mono (same_new fT)) .nil))⟩
def zipD (ds : List D) (Q : List D → Prop) : Prop := (∃ xs ys, ds = [.tup xs, .tup ys] ∧ Q (zipL xs ys)) ∨ ∃ xs ys, ds = [.lst xs, .lst ys] ∧ Q (zipL xs ys)
@[simp] theorem zipD_t (xs ys : List D) (Q : List D → Prop) : zipD [.tup xs, .tup ys] Q ↔ Q (zipL xs ys) := ⟨fun h => by
  rcases h with ⟨_, _, e, q⟩ | ⟨_, _, e, q⟩ <;> cases e <;> exact q, fun q => .inl ⟨_, _, rfl, q⟩⟩
@[simp] theorem zipD_l (xs ys : List D) (Q : List D → Prop) : zipD [.lst xs, .lst ys] Q ↔ Q (zipL xs ys) := ⟨fun h => by
  rcases h with ⟨_, _, e, q⟩ | ⟨_, _, e, q⟩ <;> cases e <;> exact q, fun q => .inr ⟨_, _, rfl, q⟩⟩
@[simp] def gZip (fs : GA) (σ : List SV) (Q : List D → Prop) : Prop := fs σ fun ds => zipD ds Q
theorem pid_zip {p tpos : Pos} {elts : List Expr} {kk : Nat} {fs : GA} (hg : Gl X "zip") (hm : X.mg "zip" = none) (ha : AD B X [e, e2] fs)
    (hs : starEach [e, e2] X.env = (false, eval e X.env) :: starEach [e2] X.env := by rfl) (hpl : (backTo pos (starEach [e2] X.env)).any (·.1) = false := by rfl) :
    PID B X (.Tuple elts kk tpos) (.Call (.Name "zip" p) [e, e2] [] pos) (gZip fs) :=
  ⟨pi_imp (RZ.pi_zipA hg hm ha.run hs hpl) fun s H R ⟨σ, F, Qd, Rl, q, k⟩ => ⟨σ, F, _, Rl, q, fun ds qd F1 H1 vs g1 d1 r1 => by
    rcases qd with ⟨xs, ys, rfl, qd⟩ | ⟨xs, ys, rfl, qd⟩
    · cases r1 with
      | cons ra rr =>
        cases rr with
        | cons rb rr =>
          cases rr
          cases ra with
          | tup h r =>
            cases rb with
            | tup h2 r2 => exact ⟨_, _, _, _, rfl, .inr ⟨same_t g1.fh h, same_t g1.fh h2, k _ qd F1 H1 _ g1 d1 (itOk_zipT h r h2 r2)⟩⟩
    · cases r1 with
      | cons ra rr =>
        cases rr with
        | cons rb rr =>
          cases rr
          cases ra with
          | lst h r =>
            cases rb with
            | lst h2 r2 => exact ⟨_, _, _, _, rfl, .inl ⟨SqL.of (g1.fh _ _ h), SqL.of (g1.fh _ _ h2), k _ qd F1 H1 _ g1 d1 (itOk_zipL h r h2 r2)⟩⟩⟩⟩
end
end ND

/-! ND30: rows of five, corners, outcomes, evaluation (first written for k13) -/
namespace ND
open PySem PySem.Spec L2
def isI : D → Bool | .int _ => true | _ => false
def nOf : D → Int | .int i => i | _ => 0
def isFive : D → Bool
  | .tup xs => decide (xs.length = 5) && xs.all isI
  | _ => false
def sumN : D → Int
  | .tup xs => (xs.map nOf).sum
  | _ => 0
def isCor (x : D) : Bool := isFive x && decide (1 ≤ sumN x ∧ sumN x ≤ 4)
def isDir : D → Bool
  | .int i => decide (0 ≤ i ∧ i ≤ 4)
  | _ => false
def tup5 (f : Int → Int) : D := .tup [.int (f 0), .int (f 1), .int (f 2), .int (f 3), .int (f 4)]
def sum5 (f : Int → Int) : Int := f 0 + f 1 + f 2 + f 3 + f 4
def at5 (a b c d e i : Int) : Int := if i = 0 then a else if i = 1 then b else if i = 2 then c else if i = 3 then d else e
def rz (f : Int → Int) (j u : Int) : Int → Int := fun i => f i + if i = j then u else 0
inductive Oc where
  | ok (d : D)
  | bad (c : Str) (x : D)
def outc : Oc → (D → Prop) → (Er → Prop) → Prop
  | .ok d, Q, _ => Q d
  | .bad c x, _, R => R ⟨c, [("thing", x)]⟩
theorem five_of {j : Int} (h0 : 0 ≤ j) (h1 : j ≤ 4) : j = 0 ∨ j = 1 ∨ j = 2 ∨ j = 3 ∨ j = 4 := by omega
theorem all_lc {W : WD} {σ : List SV} {i : Nat} {Q : List D → Prop} {c : D → Bool} (sp : DSp) (hs : ∀ x Qd, (tyD x).isSome = true → Qd (.bl (c x)) → sp W [x] Qd fun _ => False) (hi : i < σ.length) : ∀ (xs acc : List D), (∀ x ∈ xs, (tyD x).isSome = true) → acc.length + xs.length ≤ sizeLine → Q (acc ++ xs.map fun x => .bl (c x)) →
    lcG (ggName i) gYes (gCall sp W (fun _ => False) (ND.gCons (gVar i) ND.gNil)) [i] σ Q xs acc
  | [], acc, _, _, q => by simpa [lcG] using q
  | x :: xs, acc, h, hl, q => by
    simp only [List.length_cons] at hl
    have e : (σ.set i (.d x))[i]? = some (.d x) := by simp [hi]
    simp only [lcG, ggName, wipeD, gYes, gCall, ND.gCons, ND.gNil, gVar, List.set_set, e, if_true]
    exact hs x _ (h x List.mem_cons_self) ⟨by omega, all_lc sp hs hi xs _ (fun y m => h y (List.mem_cons_of_mem _ m)) (by simp; omega) (by simpa using q)⟩
theorem not_lc {W : WD} {σ : List SV} {i : Nat} {Q : List D → Prop} {c : D → Bool} (sp : DSp) (hs : ∀ x Qd, (tyD x).isSome = true → Qd (.bl (c x)) → sp W [x] Qd fun _ => False) (hi : i < σ.length) : ∀ (xs acc : List D), (∀ x ∈ xs, (tyD x).isSome = true) → acc.length + xs.length ≤ sizeLine → Q (acc ++ (xs.filter fun x => !c x).map fun _ => .int 1) →
    lcG (ggName i) (gNotT (gTru (gCall sp W (fun _ => False) (ND.gCons (gVar i) ND.gNil)))) (gC (.int 1)) [i] σ Q xs acc
  | [], acc, _, _, q => by simpa [lcG] using q
  | x :: xs, acc, h, hl, q => by
    simp only [List.length_cons] at hl
    have e : (σ.set i (.d x))[i]? = some (.d x) := by simp [hi]
    simp only [lcG, ggName, wipeD, gNotT, gTru, gC, gCall, ND.gCons, ND.gNil, gVar, List.set_set, e]
    refine hs x _ (h x List.mem_cons_self) ?_
    simp only [truthD]
    cases hc : c x
    · simp only [Bool.not_false, if_true]
      exact ⟨by omega, not_lc sp hs hi xs _ (fun y m => h y (List.mem_cons_of_mem _ m)) (by simp; omega) (by simpa [hc] using q)⟩
    · simp only [Bool.not_true, Bool.false_eq_true, if_false]
      exact not_lc sp hs hi xs _ (fun y m => h y (List.mem_cons_of_mem _ m)) (by omega) (by simpa [hc] using q)
theorem bls_map (f : D → Bool) : ∀ xs : List D, blsOf (xs.map fun x => .bl (f x)) = some (xs.map f)
  | [] => rfl
  | x :: xs => by simp [blsOf, bls_map f xs]
theorem rps_ty {n : Nat} {xs : List D} (h : rps n xs = true) : ∀ x ∈ xs, (tyD x).isSome = true := fun x m => by
  rw [rps_all, List.all_eq_true] at h
  exact rp_ty (h x m)
theorem rp_tup {xs : List D} (h : rp 64 (.tup xs) = true) : ∀ x ∈ xs, (tyD x).isSome = true := rps_ty (n := 63) (by simpa only [rp] using h)
theorem isI_n {x : D} (h : isI x = true) : ∃ i, x = .int i := by
  cases x with
  | int i => exact ⟨i, rfl⟩
  | _ => simp [isI] at h
theorem len3 {xs : List D} (h : xs.length = 3) : ∃ a b c, xs = [a, b, c] := by
  match xs, h with
  | [a, b, c], _ => exact ⟨a, b, c, rfl⟩
theorem pls_ones (xs : List D) (n : Nat) : pls n (xs.map fun _ => .int 1) = true := by
  induction xs with
  | nil => simp [pls]
  | cons x xs ih => simp [pls, pl, ih]
theorem ne_nil {xs : List D} : PyData.eqv (.list (toPys xs)) (.list (toPys [])) = xs.isEmpty := by
  cases xs <;> simp [toPys, PyData.eqv, PyData.eqvAll]
theorem ne_ones {xs : List D} {P N : Prop} (q : if xs.all isI = true then P else N) : pl 64 (.lst ([] ++ (xs.filter fun x => !isI x).map fun _ => .int 1)) = true ∧ pl 64 (.lst []) = true ∧ (if eqb (.lst ([] ++ (xs.filter fun x => !isI x).map fun _ => .int 1)) (.lst []) = true then P else N) := by
  have e : ((xs.filter fun x => !isI x).map fun _ => D.int 1).isEmpty = xs.all isI := by
    induction xs with
    | nil => rfl
    | cons x xs ih => cases h : isI x <;> simp_all
  simp only [List.nil_append, pl, pls_ones, eqb, toPy, ne_nil, e]
  exact ⟨trivial, by simp [pls], q⟩
theorem ints_of : ∀ {xs : List D}, xs.all isI = true → intsOf xs = some (xs.map nOf)
  | [], _ => rfl
  | x :: xs, h => by
    simp only [List.all_cons, Bool.and_eq_true] at h
    obtain ⟨i, rfl⟩ := isI_n h.1
    simp [intsOf, ints_of h.2, nOf]
theorem five_xs {x : D} (h : isFive x = true) : ∃ xs, x = .tup xs ∧ xs.length = 5 ∧ xs.all isI = true := by
  cases x with
  | tup xs =>
    simp only [isFive, Bool.and_eq_true, decide_eq_true_eq] at h
    exact ⟨xs, rfl, h⟩
  | _ => simp [isFive] at h
theorem five_ok {xs : List D} (hl : xs.length = 5) (ha : xs.all isI = true) : isFive (.tup xs) = true := by simp [isFive, hl, ha]
theorem cor_eq {xs : List D} (hl : xs.length = 5) (ha : xs.all isI = true) : isCor (.tup xs) = decide (1 ≤ (xs.map nOf).sum ∧ (xs.map nOf).sum ≤ 4) := by
  unfold isCor
  rw [five_ok hl ha, Bool.true_and]
  rfl
theorem cor_no {x : D} (h : isFive x = false) : isCor x = false := by
  unfold isCor
  rw [h, Bool.false_and]
theorem tup5_mk (a b c d e : Int) : D.tup [.int a, .int b, .int c, .int d, .int e] = tup5 (at5 a b c d e) := by simp [tup5, at5]
theorem rp_tup5 (f : Int → Int) : rp 64 (tup5 f) = true := by simp [tup5, rp, rps]
theorem cor5 (f : Int → Int) : isCor (tup5 f) = decide (1 ≤ sum5 f ∧ sum5 f ≤ 4) := by
  have e : (([D.int (f 0), .int (f 1), .int (f 2), .int (f 3), .int (f 4)]).map nOf).sum = sum5 f := by
    simp [nOf, sum5]
    omega
  have := cor_eq (xs := [D.int (f 0), .int (f 1), .int (f 2), .int (f 3), .int (f 4)]) rfl rfl
  rw [e] at this
  exact this
theorem cor_yes {f : Int → Int} (h1 : 1 ≤ sum5 f) (h2 : sum5 f ≤ 4) : isCor (tup5 f) = true := by
  rw [cor5]
  exact decide_eq_true ⟨h1, h2⟩
theorem cor_n {x : D} (h : isCor x = true) : ∃ a b c d e, x = tup5 (at5 a b c d e) ∧ 1 ≤ sum5 (at5 a b c d e) ∧ sum5 (at5 a b c d e) ≤ 4 := by
  cases hf : isFive x
  · rw [cor_no hf] at h
    cases h
  · obtain ⟨xs, rfl, hl, ha⟩ := five_xs hf
    match xs, hl with
    | [a, b, c, d, e], _ =>
      simp at ha
      obtain ⟨h1, h2, h3, h4, h5⟩ := ha
      obtain ⟨a, rfl⟩ := isI_n h1
      obtain ⟨b, rfl⟩ := isI_n h2
      obtain ⟨c, rfl⟩ := isI_n h3
      obtain ⟨d, rfl⟩ := isI_n h4
      obtain ⟨e, rfl⟩ := isI_n h5
      rw [tup5_mk, cor5] at h
      exact ⟨a, b, c, d, e, tup5_mk _ _ _ _ _, of_decide_eq_true h⟩
theorem sum5_D {f : Int → Int} {Q : D → Prop} (q : Q (.int (sum5 f))) : sumD [tup5 f] Q := by
  refine ⟨_, ints_of rfl, ?_⟩
  have e : (([D.int (f 0), .int (f 1), .int (f 2), .int (f 3), .int (f 4)]).map nOf).sum = sum5 f := by
    simp [nOf, sum5]
    omega
  rw [e]
  exact q
theorem rz_sum {f : Int → Int} {j u : Int} (h0 : 0 ≤ j) (h1 : j ≤ 4) : sum5 (rz f j u) = sum5 f + u := by
  rcases five_of h0 h1 with h | h | h | h | h <;> subst h <;> simp [sum5, rz] <;> omega
theorem lc5 {σ : List SV} {i : Nat} {fe : GE} {Q : List D → Prop} {g : Int → D} (h : ∀ j, 0 ≤ j → j ≤ 4 → ∀ Qd : D → Prop, Qd (g j) → fe (σ.set i (.d (.int j))) Qd) (q : Q [g 0, g 1, g 2, g 3, g 4]) : lcG (ggName i) gYes fe [i] σ Q (ND.intsFrom 0 5) [] := by
  simp only [ints5, lcG, ggName, wipeD, gYes, List.set_set, if_true]
  refine h 0 (by decide) (by decide) _ ⟨by simp, h 1 (by decide) (by decide) _ ⟨by simp, h 2 (by decide) (by decide) _ ⟨by simp, h 3 (by decide) (by decide) _ ⟨by simp, h 4 (by decide) (by decide) _ ⟨by simp, q⟩⟩⟩⟩⟩
theorem tup5_ext {f g : Int → Int} (h : ∀ i, 0 ≤ i → i ≤ 4 → f i = g i) : tup5 f = tup5 g := by
  unfold tup5
  rw [h 0 (by decide) (by decide), h 1 (by decide) (by decide), h 2 (by decide) (by decide), h 3 (by decide) (by decide), h 4 (by decide) (by decide)]
theorem at5_at {f : Int → Int} {i : Int} (h0 : 0 ≤ i) (h1 : i ≤ 4) : at5 (f 0) (f 1) (f 2) (f 3) (f 4) i = f i := by
  rcases five_of h0 h1 with h | h | h | h | h <;> subst h <;> simp [at5]
theorem list5 {xs : List D} {g : Int → D} (hl : xs.length = 5) (h : ∀ i : Int, 0 ≤ i → i ≤ 4 → xs[i.toNat]? = some (g i)) : xs = [g 0, g 1, g 2, g 3, g 4] := by
  match xs, hl with
  | [a, b, c, d, e], _ =>
    have h0 := h 0 (by decide) (by decide)
    have h1 := h 1 (by decide) (by decide)
    have h2 := h 2 (by decide) (by decide)
    have h3 := h 3 (by decide) (by decide)
    have h4 := h 4 (by decide) (by decide)
    simp at h0 h1 h2 h3 h4
    rw [h0, h1, h2, h3, h4]
theorem tup5_at {f : Int → Int} {Q : D → Prop} {j : Int} (h0 : 0 ≤ j) (h1 : j ≤ 4) : ixD (tup5 f) (.int j) Q = Q (.int (f j)) := by
  rcases five_of h0 h1 with h | h | h | h | h <;> subst h <;> simp [tup5, ixD, atI, ixN]
theorem filt_lc {σ : List SV} {i : Nat} {ft : GT} {Q : List D → Prop} {c : D → Bool} (hi : i < σ.length) : ∀ (xs acc : List D), (∀ x ∈ xs, ∀ Qd : Bool → Prop, Qd (c x) → ft (σ.set i (.d x)) Qd) → acc.length + xs.length ≤ sizeLine → Q (acc ++ xs.filter c) → lcG (ggName i) ft (gVar i) [i] σ Q xs acc
  | [], acc, _, _, q => by simpa [lcG] using q
  | x :: xs, acc, h, hl, q => by
    simp only [List.length_cons] at hl
    have e : (σ.set i (.d x))[i]? = some (.d x) := by simp [hi]
    simp only [lcG, ggName, wipeD, gVar, List.set_set, e]
    refine h x List.mem_cons_self _ ?_
    cases hc : c x
    · simp only [Bool.false_eq_true, if_false]
      exact filt_lc hi xs _ (fun y m => h y (List.mem_cons_of_mem _ m)) (by omega) (by simpa [hc] using q)
    · simp only [if_true]
      exact ⟨by omega, filt_lc hi xs _ (fun y m => h y (List.mem_cons_of_mem _ m)) (by simp; omega) (by simpa [hc] using q)⟩
theorem pok_ints {ys : List D} (h : ∀ y ∈ ys, ∃ i, y = .int i ∧ Sz 240 i) : rps 0 ys = true ∧ sms (2 ^ 240) ys = true ∧ rszs ys = 4303 * ys.length := by
  induction ys with
  | nil => simp [rps, sms, rszs]
  | cons y ys ih =>
    obtain ⟨i, rfl, hi⟩ := h y List.mem_cons_self
    obtain ⟨h1, h2, h3⟩ := ih fun z m => h z (List.mem_cons_of_mem _ m)
    refine ⟨by simp [rps, rp, h1], ?_, by simp [rszs, rsz, h3]; omega⟩
    simp only [sms, hi.sm, h2]
    rfl
theorem int_tup {ys : List D} (h : ∀ y ∈ ys, ∃ i, y = .int i ∧ Sz 240 i) (hl : ys.length ≤ 12) : Pok 1 260 60000 (.tup ys) ∧ Pok 1 260 60000 (.lst ys) := by
  obtain ⟨h1, h2, h3⟩ := pok_ints h
  exact ⟨(pok_tup h1 h2).up (by decide) (by decide) (by omega), (pok_lst h1 h2).up (by decide) (by decide) (by omega)⟩
theorem rszs_app : ∀ xs ys : List D, rszs (xs ++ ys) = rszs xs + rszs ys
  | [], ys => by simp [rszs]
  | x :: xs, ys => by simp [rszs, rszs_app xs ys]; omega
theorem rp_nil (n : Nat) (x : Str) (h : PyData.strOk x = true) : rp n (.str x) = true := by cases n <;> simpa [rp] using h
theorem pok_five {a b c d e : Int} (h1 : Sz 300 a) (h2 : Sz 300 b) (h3 : Sz 300 c) (h4 : Sz 300 d) (h5 : Sz 300 e) : Pok 1 300 22000 (.tup [.int a, .int b, .int c, .int d, .int e]) := by
  refine ⟨by simp [rp, rps], ?_, by simp [rsz, rszs]⟩
  simp only [sm, sms, Bool.and_eq_true, decide_eq_true_eq]
  exact ⟨h1, h2, h3, h4, h5, trivial⟩
theorem sz_sm {i : Int} (h1 : -100 ≤ i) (h2 : i ≤ 100) : Sz 300 i := (Sz.small (by omega) (by omega)).mono (by decide)
theorem dir_n {x : D} (h : isDir x = true) : ∃ i, x = .int i ∧ 0 ≤ i ∧ i ≤ 4 := by
  cases x with
  | int i => exact ⟨i, rfl, of_decide_eq_true h⟩
  | _ => cases h
def Szf (n : Nat) (f : Int → Int) : Prop := ∀ i, 0 ≤ i → i ≤ 4 → Sz n (f i)
theorem Szf.rz {n : Nat} {f : Int → Int} {j u : Int} (h : Szf n f) (hn : 20 ≤ n) (h1 : -100 ≤ u) (h2 : u ≤ 100) : Szf (n + 1) (rz f j u) := fun i i0 i4 => by
  unfold ND.rz
  split
  · exact (h _ i0 i4).add ((Sz.small (by omega) (by omega)).mono hn)
  · exact (h _ i0 i4).add ((Sz.small (by omega) (by omega)).mono hn)
section
variable {σ : List SV} {f g h : GE} {fs : GA} {x y : D} {xs ys : List D} {W : WD} {R : Er → Prop} {s s' t : GS} {E : Ed}
theorem Ev.repr (h : Ev σ f x) (hr : Rok x) : Ev σ (gBlt reprB (ND.gCons f ND.gNil)) (.str (toPy x).shown) := ⟨fun Q q => h.run _ (hr.reprB q)⟩
theorem seq_setL {k : Nat} (h : EvA σ fs xs) (hl : xs.length ≤ sizeLine) (q : s E (σ.set k (.ol xs))) : gSeq (gSetL k (gLst fs)) s E σ := h.run _ ⟨hl, q⟩
theorem seq_app {k : Nat} (hk : σ[k]? = some (.ol xs)) (h : Ev σ f x) (hl : xs.length < sizeLine) (q : s E (σ.set k (.ol (xs ++ [x])))) : gSeq (gApp k f) s E σ := ⟨xs, hk, h.run _ ⟨hl, q⟩⟩
theorem Ev.mul2 (h : Ev σ f (.lst xs)) (hl : xs.length * 2 ≤ sizeLine) : Ev σ (gBin mulD f (gC (.int 2))) (.lst (xs ++ (xs ++ []))) := ⟨fun Q q => h.run _ ⟨by decide, by decide, hl, q⟩⟩
theorem Ev.sum {k : Int → Int} (a : Ev σ f (tup5 k)) : Ev σ (gBlt sumD (ND.gCons f ND.gNil)) (.int (sum5 k)) := ⟨fun Q z => a.run _ (sum5_D z)⟩
theorem Ev.ix2 {a b c : D} (k : Ev σ f (.tup [a, b, c])) : Ev σ (gBin ixD f (gC (.int 2))) c := ⟨fun Q z => k.run _ (by simpa using z)⟩
theorem Ev.not {u : Bool} (a : Ev σ f (.bl u)) : Ev σ (gNot f) (.bl (!u)) := ⟨fun Q z => a.run _ (by simpa using z)⟩
theorem Ev.iff {u v : Int} (a : Ev σ f (.int u)) (b : u = v → Ev σ g x) (c : ¬ u = v → Ev σ h x) : Ev σ (gIf (gB (gBin eqD f (gC (.int v)))) g h) x := ⟨fun Q z => a.run _ (by
  simp
  by_cases e : u = v
  · rw [if_pos e]
    exact (b e).run _ z
  · rw [if_neg e]
    exact (c e).run _ z)⟩
theorem seq_ok (a : Ev σ f (.bl true)) (q : t E σ) : gSeq (gIfS (gNotT (gTru f)) s gSkip) t E σ := a.run _ (by simpa using q)
theorem if_ok (a : Ev σ f (.bl true)) (q : E.nx σ) : gIfS (gNotT (gTru f)) s gSkip E σ := a.run _ (by simpa using q)
theorem rok_pair {x y : D} (h1 : Pok 6 300 200000 x) (h2 : Pok 6 300 200000 y) : Rok (.tup [x, y]) := by
  refine Pok.rok (n := 7) (m := 300) (s := 500000) ⟨?_, ?_, ?_⟩ (by decide) (by decide) (by decide) (by simp [toPy, isDct])
  · simp only [rp, rps, Bool.and_eq_true]
    exact ⟨h1.r, h2.r, trivial⟩
  · simp only [sm, sms, Bool.and_eq_true]
    exact ⟨h1.b, h2.b, trivial⟩
  · have := h1.z
    have := h2.z
    simp only [rsz, rszs]
    omega
end
theorem Szf.pok {n : Nat} {f : Int → Int} (h : Szf n f) (hn : n ≤ 300) : Pok 6 300 200000 (tup5 f) :=
  (pok_five ((h 0 (by decide) (by decide)).mono hn) ((h 1 (by decide) (by decide)).mono hn) ((h 2 (by decide) (by decide)).mono hn) ((h 3 (by decide) (by decide)).mono hn) ((h 4 (by decide) (by decide)).mono hn)).up (by decide) (by decide) (by decide)
theorem Szf.rok {n : Nat} {f : Int → Int} (h : Szf n f) (hn : n ≤ 300) : Rok (tup5 f) := (h.pok hn).rok (by decide) (by decide) (by decide) (by simp [tup5, toPy, isDct])
structure EvP (σ : List SV) (f : GE) (P : D → Prop) : Prop where
  run : ∀ Q : D → Prop, (∀ x, P x → Q x) → f σ Q
theorem seq_setT2 {σ : List SV} {f g : GE} {P P' : D → Prop} {i j : Nat} {s : GS} {E : Ed} (h : EvP σ f P) (k : EvP σ g P') (q : ∀ a b, P a → P' b → s E (setAll [i, j] [a, b] σ)) : gSeq (gSetT [i, j] (ND.gTup (ND.gCons f (ND.gCons g ND.gNil)))) s E σ :=
  h.run _ fun a ha => k.run _ fun b hb => ⟨by simp, [a, b], rfl, rfl, q a b ha hb⟩
theorem seq_par3 {σ : List SV} {f g h : GE} {P P' P2 : D → Prop} {i j k : Nat} {s : GS} {E : Ed} (a : EvP σ f P) (b : EvP σ g P') (c : EvP σ h P2) (q : ∀ x y z, P x → P' y → P2 z → s E (setAll [i, j, k] [x, y, z] σ)) : gSeq (gPar [i, j, k] (ND.gCons f (ND.gCons g (ND.gCons h ND.gNil)))) s E σ :=
  a.run _ fun x hx => b.run _ fun y hy => c.run _ fun z hz => ⟨rfl, q x y z hx hy hz⟩
theorem seq_par2 {σ : List SV} {f g : GE} {P P' : D → Prop} {i j : Nat} {s : GS} {E : Ed} (a : EvP σ f P) (b : EvP σ g P') (q : ∀ x y, P x → P' y → s E (setAll [i, j] [x, y] σ)) : gSeq (gPar [i, j] (ND.gCons f (ND.gCons g ND.gNil))) s E σ :=
  a.run _ fun x hx => b.run _ fun y hy => ⟨rfl, q x y hx hy⟩
theorem seq_rng {σ : List SV} {k : Int} {gt : GG} {g s : GS} {E : Ed} (h0 : -(2 ^ 62) ≤ k) (h1 : k < 2 ^ 62) (q : forG gt g (ND.intsFrom 0 k.toNat) { E with nx := s E } σ) : gSeq (gFor (gRng1 (ND.gCons (gC (.int k)) ND.gNil)) gt g) s E σ := ⟨k, rfl, h0, h1, q⟩
theorem for_two {σ : List SV} {f h : GE} {x y : D} {gt : GG} {g : GS} {E : Ed} (a : Ev σ f x) (b : Ev σ h y) (q : forG gt g [x, y] E σ) : gFor (gIter (ND.gTup (ND.gCons f (ND.gCons h ND.gNil)))) gt g E σ := a.run _ (b.run _ ⟨by simp, q⟩)
theorem Ev.isn {σ : List SV} {f g h : GE} {k : Int → Int} {x : D} (a : Ev σ f (tup5 k)) (b : Ev σ h x) : Ev σ (gIf (gB (gBin (isD false) f (gC .non))) g h) x := ⟨fun Q q => a.run _ (b.run _ q)⟩
theorem Ev.isy {σ : List SV} {f g h : GE} {x : D} (a : Ev σ f .non) (b : Ev σ g x) : Ev σ (gIf (gB (gBin (isD false) f (gC .non))) g h) x := ⟨fun Q q => a.run _ (b.run _ q)⟩
end ND

/-! ND31: objects of classes of one's own: attributes, isinstance, == by one's own __eq__, makers -/
namespace ND
open PySem PySem.Spec L2
open PyProof.Rows (envOfC)

/-! ### what is known of a class -/
structure ObC (K : Kn) (n : Str) (C : Addr) : Prop where
  mg : K.mg n = some (.ref C)
  cl : Cls K.K C
  ha : PySem.W.findIn K.K (.ref C) "__class__" = some (some (.builtin "object.__class__"))
  hn : PySem.W.specialIn K.K (.builtin "object.__class__") "__get__" = some (some (.builtin "getset_descriptor.__get__"))
  tk : PySem.W.takesIn K.K (.builtin "object.__class__") = some true
  mo : PySem.W.mroIn K.K C (.type "object") = some true
/-- the attributes of instances -/
def FldTab (K : Kn) (fld : Str → Str → Bool) : Prop := ∀ n f, fld n f = true → ∃ C, K.mg n = some (.ref C) ∧ Cls K.K C ∧ NoAttr K.K C f
def tyL : List String := ["NoneType", "bool", "int", "str", "tuple", "list", "dict"]
/-- the classes: isinstance of and against them -/
structure ObTab (K : Kn) (known : Str → Bool) : Prop where
  ob : ∀ n, known n = true → ∃ C, ObC K n C
  bt : ∀ n C, known n = true → K.mg n = some (.ref C) → ∀ t ∈ tyL, PySem.W.kitOne K.K (.type t) (.ref C) = some false
  tb : ∀ n C, known n = true → K.mg n = some (.ref C) → ∀ t ∈ tyL, PySem.W.kitOne K.K (.ref C) (.type t) = some false
  oo : ∀ n m C C', known n = true → known m = true → K.mg n = some (.ref C) → K.mg m = some (.ref C') → PySem.W.kitOne K.K (.ref C) (.ref C') = some (n == m)
  ns : ∀ n C, known n = true → K.mg n = some (.ref C) → ∀ t ∈ tyL, PySem.W.subIn K.K (.type t) (.ref C) = some false
  no : ∀ n m C C', known n = true → known m = true → (n == m) = false → K.mg n = some (.ref C) → K.mg m = some (.ref C') → PySem.W.subIn K.K (.ref C') (.ref C) = some false
theorem RepFs.look {K : Kn} {F : Hp} {f : Str} {x : D} : ∀ {vs : List (Str × V)} {fs : List (Str × D)}, RepFs K F vs fs → fs.lookup f = some x → ∃ v, vs.lookup f = some v ∧ Rep K F v x
  | _, _, .nil, e => by simp at e
  | _, _, .cons (k := k) r t, e => by
    rw [List.lookup_cons] at e ⊢
    cases hk : f == k with
    | true =>
      rw [hk] at e
      cases e
      exact ⟨_, rfl, r⟩
    | false =>
      rw [hk] at e
      exact RepFs.look t e

/-! ### o.f -/
def fldD (fld : Str → Str → Bool) (f : Str) (d : D) (Q : D → Prop) : Prop := ∃ n fs x, d = .obj n fs ∧ fld n f = true ∧ fs.lookup f = some x ∧ Q x
@[simp] theorem fldD_obj (fld : Str → Str → Bool) (f n : Str) (fs : List (Str × D)) (Q : D → Prop) : fldD fld f (.obj n fs) Q ↔ fld n f = true ∧ ∃ x, fs.lookup f = some x ∧ Q x :=
  ⟨fun ⟨_, _, x, e, h1, h2, q⟩ => by cases e; exact ⟨h1, x, h2, q⟩, fun ⟨h1, x, h2, q⟩ => ⟨_, _, x, rfl, h1, h2, q⟩⟩
@[simp] def gFld (fld : Str → Str → Bool) (f : Str) (fa : GE) (σ : List SV) (Q : D → Prop) : Prop := fa σ fun d => fldD fld f d Q
section
variable {B : Bs} {X : Cx} {e : Expr} {f : Str} {pos p p2 p3 : Pos} {fa fb : GE} {fld : Str → Str → Bool} {known : Str → Bool} {n : Str}
theorem ed_fld (T : FldTab X.kn fld) (ha : BD B X e fa) (hb : attributeBase e f X.env (eval e X.env) = eval e X.env := by rfl) : ED B X (.Attribute e f pos) (gFld fld f fa) :=
  ⟨pe_imp (pe_fld ha.run hb) fun s H Q ⟨σ, F, Qd, R, q, k⟩ => ⟨σ, F, _, R, q, fun d ⟨n, fs, x, ed, hf, hl, qx⟩ F1 H1 v g1 d1 r1 => by
    subst ed
    obtain ⟨a, C, dx, vs, hm, rfl, h1, rf⟩ := r1.obj g1.fh
    obtain ⟨C', hm', cl, na⟩ := T n f hf
    have eC : C = C' := Value.ref.inj (Option.some.inj (hm.symm.trans hm'))
    subst eC
    obtain ⟨w, hw, rw_⟩ := rf.look hl
    exact ⟨a, C, dx, vs, w, rfl, h1, cl, na, hw, k x qx F1 H1 w g1 d1 rw_⟩⟩⟩

/-! ### isinstance -/
def isO (n : Str) : D → Bool
  | .obj m _ => m == n
  | _ => false
/-- a value whose type is known -/
def tyX (known : Str → Bool) : D → Bool
  | .obj m _ => known m
  | x => (tyD x).isSome
theorem tyX_ty {x : D} (h : (tyD x).isSome = true) : tyX known x = true := by
  cases x <;> first | exact h | (simp [tyD] at h)
theorem RepB.tyo {W : WT} {K : Kn} {F H : Hp} {v : V} {x : D} (h : RepB W K F H v x) (e : Same F H) (T : ObTab K known) (hx : tyX known x = true) :
    ∃ t, TyX K.K H v t ∧ ((∃ s, tyD x = some s ∧ s ∈ tyL ∧ t = .type s) ∨ ∃ m fs C, x = .obj m fs ∧ known m = true ∧ K.mg m = some (.ref C) ∧ t = .ref C) := by
  by_cases ht : (tyD x).isSome = true
  · obtain ⟨s, hs⟩ := Option.isSome_iff_exists.mp ht
    exact ⟨.type s, h.tyx e hs, .inl ⟨s, hs, tyD_mem hs, rfl⟩⟩
  · cases x with
    | obj m fs =>
      obtain ⟨C, O⟩ := T.ob m hx
      obtain ⟨a, C', dx, vs, hm, rfl, h1, rf⟩ := h.obj e
      have eC : C' = C := Value.ref.inj (Option.some.inj (hm.symm.trans O.mg))
      subst eC
      exact ⟨.ref C', .base (.ins h1 O.cl O.ha O.hn O.tk O.mo), .inr ⟨m, fs, C', rfl, hx, hm, rfl⟩⟩
    | _ => exact absurd hx ht
/-- isinstance(x, n), n a class of one's own -/
@[simp] def gIsO (known : Str → Bool) (n : Str) (fa : GE) (σ : List SV) (Q : D → Prop) : Prop := fa σ fun x => tyX known x = true ∧ Q (.bl (isO n x))
theorem ed_isO (T : ObTab X.kn known) (hk : known n = true) (hg : Gl X "isinstance") (hm : X.mg "isinstance" = none) (gc : Gl X n) (ndb : (n == ("__debug__" : Str)) = false) (ha : BD B X e fa)
    (hst : starEach [e, .Name n p2] X.env = (false, eval e X.env) :: starEach [.Name n p2] X.env := by rfl) (hst2 : starEach [.Name n p2] X.env = [(false, eval (.Name n p2) X.env)] := by rfl)
    (hpl : (backTo pos (starEach [.Name n p2] X.env)).any (·.1) = false := by rfl) : ED B X (.Call (.Name "isinstance" p3) [e, .Name n p2] [] pos) (gIsO known n fa) := by
  obtain ⟨C, O⟩ := T.ob n hk
  have nameC : PE X (.Name n p2) (tC (.ref C)) := pe_glob gc O.mg rfl ndb
  refine ⟨pe_imp (pe_callB call_isi hg hm nbIsi (pa_cons ha.run (pa_cons nameC pa_nil hst2) hst) (by decide) (by decide) hst hpl) fun s H Q ⟨σ, F, Qd, R, q, k⟩ => ?_⟩
  refine ⟨σ, F, _, R, q, fun d ⟨hx, qd⟩ F1 H1 v g1 d1 r1 => ?_⟩
  obtain ⟨t, ty, ht⟩ := r1.tyo g1.fh T hx
  refine ⟨v, .ref C, t, .ref C, isO n d, rfl, .own C, ty, ?_, k _ qd F1 H1 _ g1 d1 (.bl _)⟩
  rcases ht with ⟨z, hz, hm', rfl⟩ | ⟨m, fs, C', rfl, hk', hm', rfl⟩
  · have : isO n d = false := by cases d <;> first | rfl | (simp [tyD] at hz)
    rw [this]
    exact T.bt n C hk O.mg z hm'
  · exact T.oo m n C' C hk' hk hm' O.mg
/-- isinstance with a built-in type, of any value -/
def isiX (known : Str → Bool) : List D → (D → Prop) → Prop
  | [x, .opq (.ty T)], Q => knownT T = true ∧ tyX known x = true ∧ Q (.bl (isiB T x))
  | _, _ => False
theorem c_isiX (T : ObTab X.kn known) : CallR X (.builtin "isinstance") (LCa B X.kn (isiX known)) := callR_by fun vs H Q ⟨F, ds, Qd, e, dk, r, q, k⟩ => by
  unfold isiX at q
  split at q
  · rename_i x S
    obtain ⟨v, u, rfl, r1, r2⟩ := rb2 r
    obtain ⟨h1, h2, h3⟩ := q
    have hu := r2.opq
    subst hu
    have mT : S ∈ ["int", "bool", "str", "tuple", "list", "dict"] := by
      simp only [knownT, Bool.or_eq_true, beq_iff_eq] at h1
      rcases h1 with ((((h | h) | h) | h) | h) | h <;> subst h <;> simp
    obtain ⟨t, ty, ht⟩ := r1.tyo e T h2
    refine ⟨_, call_isi, v, .ty S, t, .type S, isiB S x, rfl, .ty S, ty, ?_, k.here e dk h3 (.bl _)⟩
    rcases ht with ⟨z, hz, hm', rfl⟩ | ⟨m, fs, C', rfl, hk', hm', rfl⟩
    · have : isiB S x = isTb z S := by unfold isiB; rw [hz]
      rw [this]
      exact kit_ty (kitB_all z hm' S mT)
    · refine T.tb m C' hk' hm' S ?_
      simp only [List.mem_cons, List.not_mem_nil, or_false] at mT
      rcases mT with h | h | h | h | h | h <;> subst h <;> simp [tyL]
  · exact q.elim
end
end ND

/-! ND32: == by one's own __eq__; makers -/
namespace ND
open PySem PySem.Spec L2
open PyProof.Rows (envOfC)

/-! ### == -/
def eqX (sps : Str → Option DSp) (W : WD) : D → D → (D → Prop) → Prop
  | .obj n fs, y, Q => ∃ sp, sps n = some sp ∧ sp W [.obj n fs, y] (fun r => isBl r fun b => Q (.bl b)) fun _ => False
  | x, y, Q => eqD x y Q
/-- what of the class n is asked of its own __eq__ -/
structure EqOf (P : Program) (w : World) (K : PySem.W.Frag) (mg : Str → Option Value) (base : Heap) (T : List (Addr × Str)) (k : Nat) (known : Str → Bool) (n : Str) (sp : DSp) : Prop where
  kn : known n = true
  ex : ∃ C f fd ps, mg n = some (.ref C) ∧ PySem.W.findIn K (.ref C) "__eq__" = some (some (.ref f)) ∧ PySem.W.isFn K (.ref f) = true ∧ Binds K fd ps [] ∧ FnOk P w K mg base (L2.CX P w) k f fd ps (liftSp ⟨K, mg⟩ T sp)
  ty : ∀ W x y Q R, sp W [x, y] Q R → tyX known y = true
/-- an operation on data -/
def LO2E (B : Bs) (K : Kn) (g : D → D → (D → Prop) → Prop) : R2 := fun v u H Q => ∃ F x y Qd, Same F H ∧ DeckIn B.W F H ∧ Rep K F v x ∧ Rep K F u y ∧ g x y Qd ∧ Fin B K F H Qd Q
section
variable {B : Bs} {X : Cx} {known : Str → Bool} {k : Nat} {a b : Expr} {fa fb : GE} {g : D → D → (D → Prop) → Prop} {pos : Pos}
theorem lo2e_of {K : Kn} {s : L2.St} {σ : List SV} {F H : Hp} {Qd : D → Prop} {Q : VK} (R : Rel B K σ s F H) (q : gBin g fa fb σ Qd) (k : Fin B K F H Qd Q) : tOp (LO2E B K g) (LE B K fa) (LE B K fb) s H Q :=
  ⟨σ, F, _, R, q, fun x qx F1 H1 v g1 d1 r1 => ⟨σ, F1, _, R.grow g1 d1, qx, fun y qy F2 H2 u g2 d2 r2 => ⟨F2, x, y, Qd, g2.fh, d2, r1.mono g2.ff, r2, qy, k.more (g1.trans g2)⟩⟩⟩
theorem ed_cmpE {op : CmpOp} (ho : OpR X (compareOp op) (LO2E B X.kn g)) (ha : ED B X a fa) (hb : ED B X b fb) (hm : behindInMarks op b = false) : ED B X (.Compare a [op] [b] pos) (gBin g fa fb) :=
  ⟨pe_imp (pe_cmpR ho ha.run hb.run hm) fun s H Q ⟨σ, F, Qd, R, q, k⟩ => lo2e_of R q k⟩
theorem o_eqX {sps : Str → Option DSp} (T : ObTab X.kn known) (hs : ∀ n sp, sps n = some sp → EqOf X.prog X.w X.K X.mg X.base B.W.T k known n sp) (hr : Room k X.A) (hu : X.A.units + 64 < cLine) (hx : Passes (L2.CX X.prog X.w) X (fun _ _ _ => False)) : OpR X (compareOp .Eq) (LO2E B X.kn (eqX sps B.W.p)) := by
  intro pins s σ H x y v u Q I rx ry ⟨F, dx, dy, Qd, e, dk, r1, r2, q, kf⟩
  by_cases ho : ∃ n fs, dx = .obj n fs
  · obtain ⟨n, fs, rfl⟩ := ho
    obtain ⟨sp, h1, q⟩ := q
    have S := hs n sp h1
    obtain ⟨C, f, fd, ps, hm, hq, hf, hb, G⟩ := S.ex
    have R1 := r1
    cases r1 with
    | @obj a C' dxx _ vs _ hm' hF rf =>
    have eC : C' = C := Value.ref.inj (Option.some.inj (hm'.symm.trans hm))
    subst eC
    cases rx
    have ha : H a = some (.ins C' dxx vs) := e _ _ hF
    have rb : RepB B.W X.kn F H y dy := .inl r2
    obtain ⟨t, ty, ht⟩ := rb.tyo e T (S.ty _ _ _ _ _ q)
    obtain ⟨P, Z, p, _⟩ := kit_of I ry ty
    obtain ⟨mA, J, _⟩ := ins_get I.hok ha
    obtain ⟨od, J, _⟩ := J.look
    obtain ⟨m, hF⟩ := I.fr
    have nf : PySem.W.notFirst X.K C' t = true := by
      unfold PySem.W.notFirst
      rcases ht with ⟨z, hz, hm2, rfl⟩ | ⟨m2, fs2, C2, rfl, hk2, hm2, rfl⟩
      · rw [T.ns n C' S.kn hm z hm2]
        simp
      · by_cases en : (n == m2) = true
        · have : n = m2 := beq_iff_eq.mp en
          subst this
          have eC : C2 = C' := Value.ref.inj (Option.some.inj (hm2.symm.trans hm))
          subst eC
          simp
        · rw [T.no n m2 C' C2 S.kn hk2 (Bool.eq_false_iff.mpr en) hm hm2]
          simp
    show wpAny (model X.prog X.w) X.A (richCompare .Eq (.ref a) u) (EP X pins σ Q) X.xe s
    refine PySem.W.cmp_K (op := .Eq) (tb := t) (by omega) hF I.ok.mod.kin J (Z.ty _ _ I.kIn p) nf hq hf ?_
    have want : liftSp X.kn B.W.T sp ([.ref a, y] ++ []) H (fun z H' => (∃ b, z = .bl b) ∧ Q z H') (fun _ _ _ => False) :=
      ⟨B.W.p, F, [.obj n fs, dy], _, fun _ => False, e, dk, by rw [List.append_nil]; exact .cons R1 (.cons r2 .nil), q, fun d qd0 F' H' z g' dk' r' => by
        obtain ⟨b, ed, qd⟩ := isBl_ex qd0
        subst ed
        cases r'
        exact ⟨⟨b, rfl⟩, kf _ qd F' H' _ g' dk' (.bl b)⟩, fun _ z => z.elim⟩
    refine wpAny_mono (run_fn (us := [.ref a, u]) (vs := [.ref a, y]) G hr hb .nil hx I (.cons rfl (.cons ry .nil)) want) (fun z s' hz => ?_) fun _ _ z => z
    obtain ⟨v', H', I', rv, ⟨b, eb⟩, qz⟩ := hz
    subst eb
    cases rv
    exact ⟨.bl b, H', I', rfl, qz⟩
  · have q' : eqD dx dy Qd := by
      cases dx <;> first | exact q | exact absurd ⟨_, _, rfl⟩ ho
    exact o_eq hu pins s σ H x y v u Q I rx ry ⟨F, dx, dy, Qd, e, dk, .inl r1, .inl r2, q', kf⟩
end

/-! ### makers -/
/-- what __init__ promises: sp's answer is the object itself -/
def liftInit (K : Kn) (T : List (Addr × Str)) (C : Addr) (sp : DSp) : Sp := fun vs H Q E => ∃ (x dx : Addr) (H0 : Hp) (us : List V) (W : WD) (F : Hp) (ds : List D) (Qd : D → Prop) (Rd : Er → Prop),
  vs = .ref x :: us ∧ H0 x = none ∧ H0 dx = none ∧ dx ≠ x ∧ H = upd (upd H0 dx (.own x)) x (.ins C dx []) ∧ Same F H0 ∧ DeckIn ⟨W, T⟩ F H0 ∧ Reps K F us ds ∧ sp W ds Qd Rd ∧
  (∀ d, Qd d → ∀ F' H', Grow ⟨W, T⟩ F H0 F' H' → DeckIn ⟨W, T⟩ F' H' → Rep K F' (.ref x) d → Q .non H') ∧ FinE ⟨W, T⟩ K F H0 Rd E
def startI (N : Nat) (x : Addr) (n : Str) (ds : List D) : List SV := .oo x n [] :: startD (N - 1) ds
/-- behind __init__'s body -/
@[simp] def endsI (x : Addr) (n : Str) (Q : D → Prop) : Ed := { nx := fun σ => ∃ fs, σ[0]? = some (.oo x n fs) ∧ Q (.obj n fs), rt := fun _ => False, bk := fun _ => False, ct := fun _ => False }
def putFD (f : Str) (v : D) : List (Str × D) → List (Str × D)
  | [] => [(f, v)]
  | (g, x) :: r => if g = f then (g, v) :: r else (g, x) :: putFD f v r
theorem RepFs.put {K : Kn} {F : Hp} {f : Str} {y : V} {d : D} (r : Rep K F y d) : ∀ {vs : List (Str × V)} {fs : List (Str × D)}, RepFs K F vs fs → RepFs K F (L2.putF f y vs) (putFD f d fs)
  | _, _, .nil => .cons r .nil
  | _, _, .cons (k := k) r' t => by
    unfold L2.putF putFD
    by_cases h : k = f
    · rw [if_pos h, if_pos h]
      exact .cons r t
    · rw [if_neg h, if_neg h]
      exact .cons r' (RepFs.put r t)
theorem RepFs.length {K : Kn} {F : Hp} : ∀ {vs : List (Str × V)} {fs : List (Str × D)}, RepFs K F vs fs → vs.length = fs.length
  | _, _, .nil => rfl
  | _, _, .cons _ t => by rw [List.length_cons, List.length_cons, RepFs.length t]
/-- self.f = e -/
def gSetF (fld : Str → Str → Bool) (k : Nat) (f : Str) (fe : GE) : GS := fun E σ => ∃ x n fs, σ[k]? = some (.oo x n fs) ∧ fld n f = true ∧ fs.length < 1000 ∧ fe σ fun d => E.nx (σ.set k (.oo x n (putFD f d fs)))
section
variable {B : Bs} {X : Cx} {fld : Str → Str → Bool} {o value : Expr} {f : Str} {pos pos' : Pos} {fe : GE} {k : Nat}
theorem sd_setF (T : FldTab X.kn fld) (ho : PE X o (tVar k)) (hv : ED B X value fe) (hs : swapsWith value (some (.Attribute o f pos')) pos.line X.env = pure false := by rfl) : SD B X (.Assign [.Attribute o f pos'] value pos) (gSetF fld k f fe) :=
  ⟨ps_imp (ps_fld ho hv.run hs) fun Dn s H ⟨σ, F, E, R, ⟨x, n, fs, e, hf, hl, q⟩, kk⟩ => by
    obtain ⟨C, dx, vs, h1, hm, h2, h3, h4, h5, h6⟩ := R.ownO e
    refine ⟨σ, F, _, R, q, fun d qd F1 H1 v g1 d1 r1 => ?_⟩
    have R1 := R.grow g1 d1
    obtain ⟨C1, dx1, vs1, k1, km, k2, k3, k4, k5, k6⟩ := R1.ownO e
    obtain ⟨C', hm', cl, na⟩ := T n f hf
    have eC : C1 = C' := Value.ref.inj (Option.some.inj (km.symm.trans hm'))
    subst eC
    refine ⟨.ref x, k1, x, C1, dx1, vs1, rfl, k2, cl, na, by rw [k3.length]; exact hl, ?_⟩
    exact kk.nx _ _ F1 _ g1.ff (R1.write e (.inr (.inr ⟨_, _, _, rfl⟩)) k1 (x := .oo x n (putFD f d fs)) ⟨rfl, rfl, C1, dx1, _, km, upd_same, k3.put r1⟩) qd⟩
end
theorem rel_startI {W : WT} {K : Kn} {F H0 : Hp} {N : List Str} {vs : List V} {ds : List D} {x dx C : Addr} {n : Str} (e : Same F H0) (dk : DeckIn W F H0) (r : Reps K F vs ds) (hn : 0 < N.length) (hx : H0 x = none) (hdx : H0 dx = none) (ne : dx ≠ x) (hm : K.mg n = some (.ref C)) :
    Rel ⟨W, F, H0⟩ K (startI N.length x n ds) (L2.start N (.ref x :: vs)) F (upd (upd H0 dx (.own x)) x (.ins C dx [])) := by
  have hx2 : upd H0 dx (.own x) x = none := by rw [upd_ne (Ne.symm ne)]; exact hx
  have g1 : Grow W F H0 F (upd H0 dx (.own x)) := Grow.laid e hdx
  have d1 : DeckIn W F (upd H0 dx (.own x)) := dk.laid hdx
  have g2 : Grow W F (upd H0 dx (.own x)) F (upd (upd H0 dx (.own x)) x (.ins C dx [])) := Grow.laid g1.fh hx2
  have d2 : DeckIn W F (upd (upd H0 dx (.own x)) x (.ins C dx [])) := d1.laid hx2
  refine ⟨g1.trans g2, dk, d2, ?_, fun i => if i = 0 then some x else none, ⟨fun i j a e1 e2 => ?_, fun i a z => ?_⟩, fun i y v e1 e2 => ?_⟩
  · unfold startI startD L2.start
    simp [r.length]
    omega
  · split at e1 <;> split at e2 <;> first | (cases e1; done) | (cases e2; done) | (subst_vars; rfl)
  · split at z
    · cases z
      exact ⟨hx, e.free hx⟩
    · cases z
  · cases i with
    | zero =>
      simp [startI] at e1
      simp [L2.start] at e2
      subst e1 e2
      exact ⟨rfl, rfl, C, dx, [], hm, upd_same, .nil⟩
    | succ i =>
      simp only [Nat.add_one_ne_zero, if_false]
      unfold startI startD at e1
      unfold L2.start at e2
      rw [List.getElem?_cons_succ] at e1
      have e2' : (vs.map some ++ List.replicate (N.length - (vs.length + 1)) none)[i]? = some v := by simpa using e2
      by_cases hi : i < ds.length
      · rw [List.getElem?_append_left (by simpa using hi)] at e1
        rw [List.getElem?_append_left (by simpa [r.length] using hi)] at e2'
        rw [List.getElem?_map] at e1 e2'
        cases ed : ds[i]? with
        | none =>
          rw [ed] at e1
          cases e1
        | some d =>
          rw [ed] at e1
          obtain ⟨u, h1, h2⟩ := r.get ed
          rw [h1] at e2'
          cases e1
          cases e2'
          exact h2
      · rw [List.getElem?_append_right (by simpa using hi)] at e1
        rw [List.getElem?_append_right (by simpa [r.length] using hi)] at e2'
        have h1 := List.eq_of_mem_replicate (List.mem_of_getElem? e1)
        have h2 := List.eq_of_mem_replicate (List.mem_of_getElem? e2')
        subst h1 h2
        exact True.intro
section
variable {P : Program} {w : World} {K : PySem.W.Frag} {mg : Str → Option Value} {base : Heap} {n qual : Str} {st : Stmt} {f C : Addr} {fd : FuncData} {N ps : List Str} {k : Nat} {sp : DSp} {g : WD → (Er → Prop) → GS} {T : List (Addr × Str)} {dvs : List V}
theorem okInit (hm : mg n = some (.ref C)) (F : FunD K "__init__" qual (defArgs st) (defBody st) (defScope st) dvs [] f fd) (S : FnScope N ("self" :: ps) (defScope st)) (hN : 0 < N.length) (hlen : ∀ W ds Q R, sp W ds Q R → ds.length = ps.length)
    (body : ∀ (cdv : Value) (A : Around) (outer : List Env) (s : Shared) (H : Hp) (E : XK) (W : WD) (F H0 : Hp) (R : Er → Prop), Room k (A.deeper (envOfC qual (defScope st) s.heap.objs.size f cdv)) → FinE ⟨W, T⟩ ⟨K, mg⟩ F H0 R E →
      PassesOwn (model P w) (cxD P w K mg base N qual st f cdv A outer s H E).A (cxD P w K mg base N qual st f cdv A outer s H E).env (cxD P w K mg base N qual st f cdv A outer s H E).xe →
      Passes (L2.CX P w) (cxD P w K mg base N qual st f cdv A outer s H E) E → SDs ⟨⟨W, T⟩, F, H0⟩ (cxD P w K mg base N qual st f cdv A outer s H E) (defBody st) (g W R))
    (law : ∀ W ds Q R x, sp W ds Q R → g W R (endsI x n Q) (startI N.length x n ds)) : FnOk P w K mg base (L2.CX P w) (k + 1) f fd ("self" :: ps) (liftInit ⟨K, mg⟩ T C sp) := by
  refine F.ok S (fun vs H Q E ⟨x, dx, H0, us, W, F, ds, Qd, Rd, e1, h1, h2, h3, h4, h5, h6, h7, h8, _⟩ => ?_) fun cdv A outer s H vs Q E hr ⟨x, dx, H0, us, W, F, ds, Qd, Rd, e1, h1, h2, h3, h4, h5, h6, h7, h8, h9, h10⟩ => ?_
  · rw [e1, List.length_cons, List.length_cons, h7.length, hlen _ _ _ _ h8]
  · subst e1 h4
    have hb := body cdv A outer s (upd (upd H0 dx (.own x)) x (.ins C dx [])) E W F H0 Rd hr h10 (passes_of rfl) (passes_call (takes_of rfl rfl rfl rfl) fun _ _ _ _ z => z)
    refine ⟨_, hb.run, startI N.length x n ds, F, endsI x n Qd, rel_startI h5 h6 h7 hN h1 h2 h3 hm, law W ds Qd Rd x h8, ?_⟩
    refine ⟨fun σ s F' H' _ R' ⟨fs, z, qd⟩ => ?_, fun _ _ _ _ _ _ _ z => z.elim, fun _ _ _ _ _ _ z => z.elim, fun _ _ _ _ _ _ z => z.elim⟩
    obtain ⟨C', dx', vs, k1, km, k2, k3, k4, k5, k6⟩ := R'.ownO z
    have g := R'.base.freeze h1 k5 k2
    exact h9 _ qd _ _ g (h6.freeze R'.deck h1) (.obj km upd_same (k3.mono (same_new k5)))
end

/-- n(..) makes an object, and keeps sp -/
structure OkM (P : Program) (w : World) (K : PySem.W.Frag) (mg : Str → Option Value) (base : Heap) (T : List (Addr × Str)) (n qual : Str) (st : Stmt) (k : Nat) (ps : List Str) (dfl : List D) (sp : DSp) : Prop where
  ex : ∃ C f fd dvs, mg n = some (.ref C) ∧ Mk K C f ∧ FunD K "__init__" qual (defArgs st) (defBody st) (defScope st) dvs [] f fd ∧ dvs ≠ [] ∧ (∀ F, Reps ⟨K, mg⟩ F dvs dfl) ∧ FnOk P w K mg base (L2.CX P w) k f fd ("self" :: ps) (liftInit ⟨K, mg⟩ T C sp)
/-- the positional values, the defaults, the keywords' values, in the order pm -/
def perm3 {α : Type} (n d m : Nat) (pm : List Nat) (us its ws : List α) : List α := if us.length = n ∧ its.length = d ∧ ws.length = m then pm.filterMap fun i => (us ++ (its ++ ws))[i]? else []
theorem perm3_self {α : Type} {n d m : Nat} {pm : List Nat} {x : α} {us its ws : List α} (h1 : us.length = n) (h2 : its.length = d) (h3 : ws.length = m) : perm3 (n + 1) d m (0 :: pm.map (· + 1)) (x :: us) its ws = x :: perm3 n d m pm us its ws := by
  unfold perm3
  rw [if_pos ⟨by rw [List.length_cons, h1], h2, h3⟩, if_pos ⟨h1, h2, h3⟩]
  simp [List.filterMap_map, Function.comp_def]
theorem paired_perm3 {α β : Type} {R : α → β → Prop} {n d m : Nat} {pm : List Nat} {us its ws : List α} {us' its' ws' : List β} (h : Paired R us us') (h2 : Paired R its its') (h3 : Paired R ws ws') : Paired R (perm3 n d m pm us its ws) (perm3 n d m pm us' its' ws') := by
  unfold perm3
  rw [paired_len h, paired_len h2, paired_len h3]
  split
  · exact paired_pick (paired_app h (paired_app h2 h3)) pm
  · exact .nil
abbrev BindsM (qual : Str) (st : Stmt) (ps : List Str) (n d : Nat) (ks : List Str) (pm : List Nat) : Prop := ∀ (T : Addr) (kV doc pmv : Value) (an : Option Addr) (cdv ct : Value) (us its ws : List Value), us.length = n + 1 → its.length = d → ws.length = ks.length →
  ∃ k, bindArgs (PySem.W.fnOf "__init__" qual (defArgs st) (defBody st) (defScope st) (.ref T) kV doc pmv an cdv ct) ⟨us, ks.zip ws⟩ = seqItems? (.ref T) >>= k ∧ k (some its.toArray) = pure (((("self" : Str) :: ps) : List Str).zip (perm3 (n + 1) d ks.length (0 :: pm.map (· + 1)) us its ws))
@[simp] def gMake (sp : DSp) (dfl : List D) (n m : Nat) (pm : List Nat) (W : WD) (R : Er → Prop) (fs fk : GA) (σ : List SV) (Q : D → Prop) : Prop := fs σ fun us => fk σ fun ws => us.length = n ∧ ws.length = m ∧ sp W (perm3 n dfl.length m pm us dfl ws) Q R
section
variable {B : Bs} {X : Cx} {k n m : Nat} {ps ks : List Str} {dfl : List D} {sp : DSp} {R : Er → Prop} {E : XK} {x qual : Str} {st : Stmt} {p pos : Pos} {e : Expr} {es : List Expr} {kws : List Keyword} {fs fk : GA} {pm : List Nat}
theorem kbn_of {K : PySem.W.Frag} {f : Addr} {fd : FuncData} {dvs : List V} (F : FunD K "__init__" qual (defArgs st) (defBody st) (defScope st) dvs [] f fd) (hd : dvs ≠ []) (b : BindsM qual st ps n dvs.length ks pm) :
    ∃ its : List Value, KBn K fd ("self" :: ps) (n + 1) ks (fun us ws => perm3 (n + 1) dvs.length ks.length (0 :: pm.map (· + 1)) us its ws) (fun vs zs => perm3 (n + 1) dvs.length ks.length (0 :: pm.map (· + 1)) vs dvs zs) :=
  F.kbindsD (n + 1) ks (fun {α} us its ws => perm3 (n + 1) dvs.length ks.length (0 :: pm.map (· + 1)) us its ws) hd (fun r1 r2 r3 => paired_perm3 r1 r2 r3) b
theorem la_make {K : Kn} {C : Addr} {dvs : List V} {s : L2.St} {σ : List SV} {F H : Hp} {Qd : D → Prop} {Q : VK} (hE : FinE B.W K B.F B.H R E) (hd : ∀ F, Reps K F dvs dfl) (hk : ks.length = m) (Rl : Rel B K σ s F H) (q : gMake sp dfl n m pm B.W.p R fs fk σ Qd) (kf : Fin B K F H Qd Q) :
    tMakeN C n ks.length (liftInit K B.W.T C sp) (fun vs zs => perm3 (n + 1) dvs.length ks.length (0 :: pm.map (· + 1)) vs dvs zs) E (LA B K fs) (LA B K fk) s H Q :=
  ⟨σ, F, _, Rl, q, fun us qus F1 H1 vs g1 d1 r1 => ⟨σ, F1, _, Rl.grow g1 d1, qus, fun ws ⟨l1, l2, qws⟩ F2 H2 zs g2 d2 r2 => by
    have e1 : vs.length = n := r1.length.trans l1
    have e2 : zs.length = ks.length := (r2.length.trans l2).trans hk.symm
    have e3 : dvs.length = dfl.length := (hd F).length
    refine ⟨e1, e2, fun x dx h1 h2 h3 => ?_⟩
    show liftInit K B.W.T C sp (perm3 (n + 1) dvs.length ks.length (0 :: pm.map (· + 1)) (V.ref x :: vs) dvs zs) _ _ E
    rw [perm3_self e1 rfl e2]
    have rr : Reps K F2 (perm3 n dvs.length ks.length pm vs dvs zs) (perm3 n dfl.length m pm us dfl ws) := by
      rw [e3, hk]
      exact Reps.of_pair (paired_perm3 (r1.mono g2.ff).pair (hd F2).pair r2.pair)
    exact ⟨x, dx, H2, _, B.W.p, F2, _, Qd, R, rfl, h1, h2, h3, rfl, g2.fh, d2, rr, qws, fun d qd F3 H3 g3 d3 r3 => ⟨rfl, kf d qd F3 H3 _ ((g1.trans g2).trans g3) d3 r3⟩, hE.more ((Rl.base.trans g1).trans g2)⟩⟩⟩
theorem ed_make (O : OkM X.prog X.w X.K X.mg X.base B.W.T x qual st k ps dfl sp) (hk : ks.length = m) (b : BindsM qual st ps n dfl.length ks pm) (hr : Room (k + 1) X.A) (hx : Passes (L2.CX X.prog X.w) X E) (hE : FinE B.W X.kn B.F B.H R E) (ha : AD B X (e :: es) fs) (hkw : KD B X kws fk) (hg : Gl X x := by rfl)
    (hall : (backToKw pos (keywordEach kws X.env)).all (·.1.isSome) = true := by rfl) (hks : (backToKw pos (keywordEach kws X.env)).filterMap (·.1) = ks := by rfl)
    (hdb : (x == ("__debug__" : Str)) = false := by decide) (he : starEach (e :: es) X.env = (false, eval e X.env) :: starEach es X.env := by rfl)
    (hpl : ((backTo pos (starEach (e :: es) X.env)).any (·.1) || (backToKw pos (keywordEach kws X.env)).any (·.1.isNone)) = false := by rfl) : ED B X (.Call (.Name x p) (e :: es) kws pos) (gMake sp dfl n m pm B.W.p R fs fk) := by
  obtain ⟨C, f, fd, dvs, hm, M, F, hd, hD, G⟩ := O.ex
  have el : dvs.length = dfl.length := (hD B.F).length
  rw [← el] at b
  obtain ⟨its, kb⟩ := kbn_of F hd b
  exact ⟨pe_imp (pe_makeN M G hr hg hm kb hx ha.run hkw.run hall hks hdb he hpl) fun s H Q ⟨σ, F, Qd, Rl, q, kf⟩ => la_make hE hD hk Rl q kf⟩
end
end ND

/-! ND33: sorted of tuples of integers; constants of the module -/
namespace ND
open PySem PySem.Spec L2
open PyProof.Rows (envOfC)

/-! ### the order of lists of integers -/
def lexI : List Int → List Int → Bool
  | x :: xs, y :: ys => if x = y then lexI xs ys else decide (x < y)
  | [], _ :: _ => true
  | _, [] => false
theorem lexI_asym : ∀ {xs ys : List Int}, lexI xs ys = true → lexI ys xs = false
  | [], [], h => by simp [lexI] at h
  | [], _ :: _, _ => by simp [lexI]
  | _ :: _, [], h => by simp [lexI] at h
  | x :: xs, y :: ys, h => by
    unfold lexI at h ⊢
    by_cases e : x = y
    · rw [if_pos e] at h
      rw [if_pos e.symm]
      exact lexI_asym h
    · rw [if_neg e] at h
      rw [if_neg (fun z => e z.symm)]
      have := of_decide_eq_true h
      exact decide_eq_false (by omega)
theorem lexI_tot : ∀ {xs ys : List Int}, lexI xs ys = false → lexI ys xs = false → xs = ys
  | [], [], _, _ => rfl
  | [], _ :: _, h, _ => by simp [lexI] at h
  | _ :: _, [], _, h => by simp [lexI] at h
  | x :: xs, y :: ys, h, h' => by
    unfold lexI at h h'
    by_cases e : x = y
    · rw [if_pos e] at h
      rw [if_pos e.symm] at h'
      rw [e, lexI_tot h h']
    · rw [if_neg e] at h
      rw [if_neg (fun z => e z.symm)] at h'
      have := of_decide_eq_false h
      have := of_decide_eq_false h'
      omega
theorem lexI_tr : ∀ {xs ys zs : List Int}, lexI ys xs = false → lexI zs ys = false → lexI zs xs = false
  | [], ys, zs, h1, h2 => by
    cases zs with
    | nil => simp [lexI]
    | cons z zs => simp [lexI]
  | x :: xs, [], zs, h1, h2 => by simp [lexI] at h1
  | x :: xs, y :: ys, [], h1, h2 => by simp [lexI] at h2
  | x :: xs, y :: ys, z :: zs, h1, h2 => by
    unfold lexI at h1 h2 ⊢
    by_cases e1 : y = x
    · rw [if_pos e1] at h1
      by_cases e2 : z = y
      · rw [if_pos e2] at h2
        rw [if_pos (e2.trans e1)]
        exact lexI_tr h1 h2
      · rw [if_neg e2] at h2
        rw [if_neg (fun e => e2 (e.trans e1.symm))]
        have := of_decide_eq_false h2
        exact decide_eq_false (by omega)
    · rw [if_neg e1] at h1
      have a1 := of_decide_eq_false h1
      by_cases e2 : z = y
      · rw [if_neg (fun e => e1 (e2.symm.trans e))]
        exact decide_eq_false (by omega)
      · rw [if_neg e2] at h2
        have a2 := of_decide_eq_false h2
        rw [if_neg (by omega)]
        exact decide_eq_false (by omega)
theorem swo_lexI {α : Type} (k : α → List Int) : SrtO.Swo fun v u => lexI (k v) (k u) := ⟨fun _ _ h => lexI_asym h, fun _ _ _ h1 h2 => lexI_tr h1 h2⟩

section
variable {prog : Program} {w : World} {A : Around} {E : Value → Shared → Prop} {s : Shared} {Q : Bool → Shared → Prop}
theorem lex_intsI {b : Bool} {xs ys : List Value} {ns ms : List Int} (i : Nat) (hx : PyProof.Rows.IntsAre xs ns) (hy : PyProof.Rows.IntsAre ys ms) (hl : ns.length = ms.length)
    (h : Q (lexI ns ms) s) : PySem.W.KatLex prog w A b false Q (xs.zip ys) i s := by
  induction hx generalizing ys ms i with
  | nil =>
    cases hy with
    | nil => exact PySem.W.kat_nil h
    | cons q u hy => simp at hl
  | @cons p t xs ns hx ih =>
    cases hy with
    | nil => simp at hl
    | @cons q u ys ms hy =>
      have hl' : ns.length = ms.length := by simpa using hl
      show PySem.W.KatLex prog w A b false Q ((Value.int p t, Value.int q u) :: xs.zip ys) i s
      refine PySem.W.kat_cons (wpAny_eqBool_int ?_)
      unfold lexI at h
      by_cases e : p = q
      · subst e
        rw [beq_self_eq_true]
        rw [if_pos rfl] at h
        refine PySem.W.kat_yes ?_
        first
          | exact ih (i + 1) hy hl' h
          | exact ih _ _ (i + 1) hy hl' h
      · rw [show (p == q) = false from beq_eq_false_iff_ne.mpr e]
        rw [if_neg e] at h
        exact PySem.W.kat_no (_root_.TS.oneLt_ints _ h)
/-- tuples of d integers each -/
def TupsI (h : Heap) (d : Nat) (vs : List Value) : Prop := ∀ v, v ∈ vs → ∃ ns, _root_.TS.TupInts h v ns ∧ ns.length = d
theorem firstsI {h : Heap} {d : Nat} (hd : 1 ≤ d) : ∀ vs : List Value, TupsI h d vs → ∃ fs, PySem.W.KatTups h vs fs ∧ fs.length = vs.length ∧ ∀ f, f ∈ fs → ∃ n t, f = Value.int n t
  | [], _ => ⟨[], PySem.W.KatTups.nil, rfl, fun f hf => by simp at hf⟩
  | v :: vs, x => by
    obtain ⟨fs, k, hl, hi⟩ := firstsI hd vs fun u hu => x u (List.mem_cons_of_mem _ hu)
    obtain ⟨ns, ⟨a, xs, rfl, ⟨o, ho, hc, n, hdt⟩, i⟩, hn⟩ := x v (List.mem_cons_self ..)
    obtain ⟨y, ys, e⟩ : ∃ y ys, xs.toList = y :: ys := by
      cases q : xs.toList with
      | nil =>
        rw [q] at i
        have l := i.length
        rw [List.length_nil, hn] at l
        omega
      | cons y ys => exact ⟨y, ys, rfl⟩
    obtain ⟨m, t, hy⟩ := i.all y (by rw [e]; exact List.mem_cons_self ..)
    refine ⟨y :: fs, PySem.W.KatTups.cons ho hc hdt ?_ k, by simp [hl], ?_⟩
    · have z := congrArg (fun l : List Value => l[0]?) e
      simpa using z
    · intro f hf
      rcases List.mem_cons.mp hf with rfl | hf
      · exact ⟨m, t, hy⟩
      · exact hi f hf
theorem sortableI {a : Addr} {vs : List Value} {d : Nat} (hd : 1 ≤ d) (h0 : 0 < vs.length) (hp : TupsI s.heap d vs) (k : Value → List Int) (hk : ∀ v ∈ vs, ∀ ns, _root_.TS.TupInts s.heap v ns → k v = ns) (ha : ∀ o, s.heap.get? a = some o → o.cls ≠ .type "tuple") : SrtO.SortableO prog w A s a vs fun v u => lexI (k v) (k u) := by
  intro h' keep
  have kp : ∀ b o, s.heap.get? b = some o → o.cls = .type "tuple" → h'.get? b = some o := fun b o e c => keep b o (fun z => by subst z; exact ha o e c) e
  have hp' : TupsI h' d vs := fun v hv => let ⟨ns, t, r⟩ := hp v hv; ⟨ns, t.keeps kp, r⟩
  obtain ⟨fs, h1, h2, h3⟩ := firstsI hd vs hp'
  refine ⟨PyProof.Rows.tuples' true, fun Q E hq => ?_, fun p q hm hm' => ?_⟩
  · refine PySem.W.kat_kind (T := .type "int") h1 (by omega) (fun f hm => ?_) (by rfl) ?_
    · obtain ⟨x, t, rfl⟩ := h3 f hm
      exact PySem.W.Looks.now
    · have e : (Value.type "int" != Value.type "tuple") = true := by first | decide +kernel | rfl | decide
      rw [e]
      exact hq
  · obtain ⟨ns, tp, lp⟩ := hp _ hm
    obtain ⟨ms, tq, lq⟩ := hp _ hm'
    show wpAny (model prog w) A (PyProof.Rows.keyLt' (PyProof.Rows.tuples' true) p.1 q.1) (fun r s' => s' = { s with heap := h' } ∧ r = lexI (k p.1) (k q.1)) (fun _ _ => False) { s with heap := h' }
    rw [hk _ hm _ tp, hk _ hm' _ tq]
    obtain ⟨a1, xs, e1, ⟨o, ho, hc, n, hdt⟩, i⟩ := tp.keeps kp
    obtain ⟨a2, ys, e2, ⟨o', ho', hc', n', hdt'⟩, i'⟩ := tq.keeps kp
    rw [e1, e2]
    refine PySem.W.kat_lt ho hdt ho' hdt' ?_
    have sz : decide (xs.size < ys.size) = false := by
      have l1 := i.length
      have l2 := i'.length
      rw [Array.length_toList] at l1 l2
      exact decide_eq_false (by omega)
    rw [sz]
    exact lex_intsI 0 i i' (by omega) ⟨rfl, rfl⟩
end

/-! ### sorted(xs), xs a list of tuples of d integers each -/
theorem perm_reps {K : Kn} {F : Hp} {ys xs : List V} (p : ys.Perm xs) : ∀ {ds : List D}, Reps K F xs ds → ∃ es : List D, es.Perm ds ∧ Reps K F ys es := by
  induction p with
  | nil =>
    intro ds r
    cases r
    exact ⟨[], .refl _, .nil⟩
  | cons x _ ih =>
    intro ds r
    cases r with
    | cons r t =>
      obtain ⟨es, pe, re⟩ := ih t
      exact ⟨_ :: es, pe.cons _, .cons r re⟩
  | swap x y l =>
    intro ds r
    cases r with
    | cons r t =>
      cases t with
      | cons r2 t => exact ⟨_, List.Perm.swap _ _ _, .cons r2 (.cons r t)⟩
  | trans _ _ ih1 ih2 =>
    intro ds r
    obtain ⟨es, pe, re⟩ := ih2 r
    obtain ⟨es', pe', re'⟩ := ih1 re
    exact ⟨es', pe'.trans pe, re'⟩
def TupV (K : PySem.W.Frag) (H : Hp) (x : V) (ns : List Int) : Prop := ∃ t, x = .ref t ∧ SqT K H t (ns.map V.int)
def rSortV (K : PySem.W.Frag) : List V → Hp → VK → Prop := fun vs H Q => ∃ (a : Addr) (xs : List V) (d : Nat), vs = [V.ref a] ∧ SqL K H a xs ∧ 1 ≤ d ∧ (∀ x ∈ xs, ∃ ns, TupV K H x ns ∧ ns.length = d) ∧
  ∀ (ys : List V) (p : Addr), ys.Perm xs → ys.Pairwise (fun x y => ∀ n m, TupV K H x n → TupV K H y m → lexI m n = false) → H p = none → Q (.ref p) (upd H p (.lst ys))
section
variable {X : Cx} {B : Bs}
theorem tupV_raw {pins : List (Addr × Obj)} {σ : L2.St} {H : Hp} {s : Shared} (I : Inv X pins σ H s) {t : Addr} {ns : List Int} (h : SqT X.K H t (ns.map V.int)) : _root_.TS.TupInts s.heap (.ref t) ns := by
  obtain ⟨its, rv, hT, _⟩ := I.tuple h
  exact ⟨t, its.toArray, rfl, hT, by simpa using rv.ints⟩
theorem cr_sortV : CallR X (.builtin "sorted") (rSortV X.K) := by
  intro pins s σ H vs us Q I r h
  obtain ⟨a, xs, d, rfl, hs, hd, hx, q⟩ := h
  obtain ⟨its, rv, hl, hz⟩ := I.list hs
  obtain ⟨u, rfl, ru⟩ := vals1 r
  obtain rfl : u = Value.ref a := ru
  obtain ⟨e1, e2⟩ := refs_back rv fun x m => by
    obtain ⟨ns, ⟨t, e, _⟩, _⟩ := hx x m
    exact ⟨t, e⟩
  have tups : TupsI s.heap d its := fun v hv => by
    obtain ⟨t, rfl⟩ := e2 v hv
    have hm : V.ref t ∈ xs := by rw [e1]; exact List.mem_map.mpr ⟨_, hv, rfl⟩
    obtain ⟨ns, ⟨t', e, ht⟩, hn⟩ := hx _ hm
    cases e
    exact ⟨ns, tupV_raw I ht, hn⟩
  refine SrtO.sorted_ord (swo_lexI (_root_.TS.intsOf s.heap)) hl.isList (by rw [← rv.length]; exact hz) (fun h2 h₁ a ha kk => ?_) fun out hs hb => ?_
  · have tups' : TupsI h₁ d its := fun v hv => let ⟨ns, t, r⟩ := tups v hv; ⟨ns, t.keeps fun b o e _ => (kk b o e).2, r⟩
    refine sortableI (s := { s with heap := h₁ }) hd (by omega) tups' _ (fun v hv ns tn => ?_) fun o e => ?_
    · obtain ⟨ns', t', _⟩ := tups v hv
      rw [t'.ints]
      have t2 := t'.keeps (h' := h₁) fun b o e _ => (kk b o e).2
      exact t2.ints.symm.trans tn.ints
    · have e' : some o = some (PyProof.Rows.seqObj "list" its.toArray 0) := e.symm.trans ha
      cases e'
      intro c
      exact absurd (Value.type.inj c) (by decide)
  · obtain ⟨ep, he'⟩ := PyProof.Rows.sortedAll_at s.heap its out.toArray
    have h3 : ∀ u ∈ out, ∃ a, u = Value.ref a := fun u hu => e2 u (hb.perm.mem_iff.mp hu)
    have hp : (out.map backV).Perm xs := by
      rw [e1]
      exact hb.perm.map backV
    have hlen : (out.map backV).length ≤ sizeLine := by
      rw [hp.length_eq]
      exact hz
    refine ⟨.ref _, upd H (s.heap.objs.size + 1) (.lst (out.map backV)), I.laid (t' := s.toks) (fun _ _ => PyProof.Rows.sortedAll_old) (Nat.le_succ _) ⟨hlen, out, ep, vals_back h3, he'⟩, rfl, q _ _ hp ?_ (I.hok.fresh (Nat.le_succ _))⟩
    rw [List.pairwise_map]
    refine List.Pairwise.imp_of_mem (fun {u v} hu hv huv n m hn hm => ?_) hs
    obtain ⟨t, et, ht⟩ := hn
    obtain ⟨t', et', ht'⟩ := hm
    obtain ⟨au, rfl⟩ := h3 _ hu
    obtain ⟨av, rfl⟩ := h3 _ hv
    cases et
    cases et'
    rw [← (tupV_raw I ht).ints, ← (tupV_raw I ht').ints]
    exact huv
def numL : List D → Option (List Int)
  | [] => some []
  | .int i :: xs => (numL xs).map (i :: ·)
  | _ => none
/-- the integers of a tuple -/
def numsT : D → List Int
  | .tup xs => (numL xs).getD []
  | _ => []
theorem numL_map : ∀ ns : List Int, numL (ns.map D.int) = some ns
  | [] => rfl
  | n :: ns => by simp [numL, numL_map ns]
@[simp] theorem numsT_map (ns : List Int) : numsT (.tup (ns.map D.int)) = ns := by simp [numsT, numL_map]
theorem reps_intsV {K : Kn} {F : Hp} : ∀ {ns : List Int} {vs : List V}, Reps K F vs (ns.map D.int) → vs = ns.map V.int
  | [], _, .nil => rfl
  | n :: ns, _, .cons r t => by
    cases r
    rw [reps_intsV t]
    rfl
theorem Rep.tupV {K : Kn} {F H : Hp} {v : V} {ns : List Int} (h : Rep K F v (.tup (ns.map D.int))) (e : Same F H) : TupV K.K H v ns := by
  cases h with
  | tup h r => exact ⟨_, rfl, same_t e (by rw [← reps_intsV r]; exact h)⟩
def sortT : List D → (List D → Prop) → Prop
  | [.lst xs], Q => (∃ d, 1 ≤ d ∧ ∀ x ∈ xs, ∃ ns : List Int, x = .tup (ns.map D.int) ∧ ns.length = d) ∧ ∀ ys : List D, ys.Perm xs → ys.Pairwise (fun x y => lexI (numsT y) (numsT x) = false) → Q ys
  | _, _ => False
theorem c_sortT : CallR X (.builtin "sorted") (LCf B X.kn sortT) := callR_by fun vs H Q ⟨F, ds, Qd, e, dk, r, q, k⟩ => by
  unfold sortT at q
  split at q
  · obtain ⟨v, rfl, r1⟩ := rb1 r
    obtain ⟨a, us, rfl, st, rs⟩ := r1.lst e
    obtain ⟨⟨d, hd, hx⟩, q⟩ := q
    have each : ∀ x ∈ us, ∃ y ∈ _, Rep X.kn F x y := fun x m => by
      obtain ⟨i, hi, ex⟩ := List.mem_iff_getElem.mp m
      obtain ⟨y, hy, ry⟩ := rs.getV (i := i) (u := x) (by rw [List.getElem?_eq_getElem hi, ex])
      exact ⟨y, List.mem_of_getElem? hy, ry⟩
    refine ⟨_, cr_sortV, a, us, d, rfl, SqL.of st, hd, fun x m => ?_, fun ys p pm pw hp => ?_⟩
    · obtain ⟨y, my, ry⟩ := each x m
      obtain ⟨ns, rfl, hn⟩ := hx y my
      exact ⟨ns, ry.tupV e, hn⟩
    · obtain ⟨es, pe, re⟩ := perm_reps pm rs
      refine k.laid e dk (q es pe ?_) hp re
      rw [List.pairwise_iff_getElem] at pw ⊢
      intro i j hi hj hij
      have li : i < ys.length := by rw [re.length]; exact hi
      have lj : j < ys.length := by rw [re.length]; exact hj
      have z := pw i j li lj hij
      obtain ⟨xi, h1, r1⟩ := re.getV (List.getElem?_eq_getElem li)
      obtain ⟨xj, h2, r2⟩ := re.getV (List.getElem?_eq_getElem lj)
      rw [List.getElem?_eq_getElem hi] at h1
      rw [List.getElem?_eq_getElem hj] at h2
      cases h1
      cases h2
      obtain ⟨ns, e1, _⟩ := hx _ (pe.mem_iff.mp (List.getElem_mem hi))
      obtain ⟨ms, e2, _⟩ := hx _ (pe.mem_iff.mp (List.getElem_mem hj))
      rw [e1] at r1 ⊢
      rw [e2] at r2 ⊢
      rw [numsT_map, numsT_map]
      exact z ns ms (r1.tupV e) (r2.tupV e)
  · exact q.elim
end

/-! ### constants of the module -/
structure GlobC (K : Kn) (x : Str) (d : D) : Prop where
  ex : ∃ v u, K.mg x = some u ∧ RelV v u ∧ ∀ F, Rep K F v d
theorem ed_glob {B : Bs} {X : Cx} {x : Str} {pos : Pos} {d : D} (G : GlobC X.kn x d) (hg : Gl X x := by rfl) (ndb : (x == ("__debug__" : Str)) = false := by decide) : ED B X (.Name x pos) (gC d) := by
  obtain ⟨v, u, hm, rv, r⟩ := G.ex
  exact ed_c (pe_glob hg hm rv ndb) r
theorem rep_ktup {K : Kn} {a : Addr} {dd : Option Addr} {its : Array Value} {n : Nat} {sl : Array (Option Value)} {vs : List V} {ds : List D} (h : K.K.lookup a = some ⟨.type "tuple", dd, .seq its n, sl⟩) (hl : its.size ≤ sizeLine) (hv : Vals vs its.toList) (r : ∀ F, Reps K F vs ds) : ∀ F, Rep K F (.ref a) (.tup ds) :=
  fun F => .tup (.inr ⟨_, its, n, h, rfl, rfl, hl, hv⟩) (r F)
end ND

/-! ND34: what the printed text of a law with objects asks -/
namespace ND
open PySem PySem.Spec L2
open PyProof.Rows (envOfC)
theorem td_cmpE {B : Bs} {X : Cx} {a b : Expr} {pos : Pos} {fa fb : GE} {g : D → D → (D → Prop) → Prop} {op : CmpOp} (ho : OpR X (compareOp op) (LO2E B X.kn g)) (ha : ED B X a fa) (hb : ED B X b fb) (hm : behindInMarks op b = false) : TD B X (.Compare a [op] [b] pos) (gB (gBin g fa fb)) :=
  ⟨pt_imp (pt_cmpR ho ha.run hb.run hm) fun s H Q ⟨σ, F, Qd, R, q, k⟩ => lo2e_of R q (fin_b k)⟩
theorem relv_int (i : Int) (t : Tok) : RelV (.int i) (.int i t) := ⟨t, rfl⟩
theorem relv_str (x : Str) (t : Tok) : RelV (.str x) (.str x t) := ⟨t, rfl⟩
theorem nbSorted : bootBuiltins "sorted" = some (.builtin "sorted") := by decide +kernel
section
variable {P : Program} {w : World} {K : PySem.W.Frag} {mg : Str → Option Value} {base : Heap} {n qual : Str} {st : Stmt} {f C : Addr} {fd : FuncData} {k : Nat} {sp : DSp} {T : List (Addr × Str)} {known : Str → Bool}
theorem eqof (kn : known n = true) (hm : mg n = some (.ref C)) (hq : PySem.W.findIn K (.ref C) "__eq__" = some (some (.ref f))) (hf : PySem.W.isFn K (.ref f) = true) (F : Fun K "__eq__" qual st f fd)
    (b : ∀ (kV doc pm : Value) (an : Option Addr) (cdv ct : Value) (us : List Value), us.length = 2 → bindArgs (PySem.W.fnOf "__eq__" qual (defArgs st) (defBody st) (defScope st) .none kV doc pm an cdv ct) ⟨us, []⟩ = pure (((["self", "other"] : List Str)).zip us))
    (G : FnOk P w K mg base (L2.CX P w) k f fd ["self", "other"] (liftSp ⟨K, mg⟩ T sp)) (ty : ∀ W x y Q R, sp W [x, y] Q R → tyX known y = true) : EqOf P w K mg base T k known n sp := by
  refine ⟨kn, ⟨C, f, fd, _, hm, hq, hf, ?_, G⟩, ty⟩
  obtain ⟨oc, od, kV, doc, pm, an, cdv, ct, osl, rfl, lk, hcd⟩ := F.ex
  exact .all (b kV doc pm an cdv ct)
/-- __init__ with defaults -/
theorem fund_mk {oc : Value} {od : Option Addr} {D : Addr} {kV doc pm : Value} {an : Option Addr} {cdv ct : Value} {osl : Array (Option Value)} {o : Obj} {its : List Value} {m : Nat} {dvs : List V}
    (l : K.lookup f = some ⟨oc, od, .func (PySem.W.fnOf "__init__" qual (defArgs st) (defBody st) (defScope st) (.ref D) kV doc pm an cdv ct), osl⟩) (hc : PySem.W.codeIn K cdv qual = true) (kp : PySem.W.keepIn K (.ref f) = true)
    (hd : dvs ≠ []) (lD : K.lookup D = some o) (oD : o.data = .seq its.toArray m) (r : Vals dvs its) :
    FunD K "__init__" qual (defArgs st) (defBody st) (defScope st) dvs [] f (PySem.W.fnOf "__init__" qual (defArgs st) (defBody st) (defScope st) (.ref D) kV doc pm an cdv ct) :=
  ⟨⟨oc, od, .ref D, kV, doc, pm, an, cdv, ct, osl, rfl, l, hc, .inr ⟨hd, D, o, its, m, rfl, lD, oD, r⟩, .inl rfl⟩, kp⟩
end
theorem obtab_one {K : Kn} {n : Str} {C : Addr} (O : ObC K n C) (bt : ∀ t ∈ tyL, PySem.W.kitOne K.K (.type t) (.ref C) = some false) (tb : ∀ t ∈ tyL, PySem.W.kitOne K.K (.ref C) (.type t) = some false)
    (oo : PySem.W.kitOne K.K (.ref C) (.ref C) = some true) (ns : ∀ t ∈ tyL, PySem.W.subIn K.K (.type t) (.ref C) = some false) : ObTab K fun m => m == n := by
  have one : ∀ m C', (m == n) = true → K.mg m = some (.ref C') → m = n ∧ C' = C := fun m C' h e => by
    have := beq_iff_eq.mp h
    subst this
    exact ⟨rfl, Value.ref.inj (Option.some.inj (e.symm.trans O.mg))⟩
  refine ⟨fun m h => ?_, fun m C' h e t ht => ?_, fun m C' h e t ht => ?_, fun m m' C1 C2 h h' e e' => ?_, fun m C' h e t ht => ?_, fun m m' C1 C2 h h' ne e e' => ?_⟩
  · have := beq_iff_eq.mp h
    subst this
    exact ⟨C, O⟩
  · obtain ⟨rfl, rfl⟩ := one m C' h e
    exact bt t ht
  · obtain ⟨rfl, rfl⟩ := one m C' h e
    exact tb t ht
  · obtain ⟨rfl, rfl⟩ := one m C1 h e
    obtain ⟨rfl, rfl⟩ := one m' C2 h' e'
    rw [beq_self_eq_true]
    exact oo
  · obtain ⟨rfl, rfl⟩ := one m C' h e
    exact ns t ht
  · obtain ⟨rfl, rfl⟩ := one m C1 h e
    obtain ⟨rfl, rfl⟩ := one m' C2 h' e'
    rw [beq_self_eq_true] at ne
    cases ne
end ND

/-! ND35: golden numbers (first written for k06, k07) -/
namespace ND
open PySem PySem.Spec L2
theorem five_sq : ∀ (n : Nat) (x b : Nat), b ≤ n → x * x = 5 * b * b → b = 0
  | 0, x, b, h, _ => by omega
  | n + 1, x, b, h, e => by
    have h5 : x % 5 = 0 := by
      have h1 : (x * x) % 5 = 0 := by rw [e, Nat.mul_assoc, Nat.mul_mod_right]
      rw [Nat.mul_mod] at h1
      have h2 : x % 5 < 5 := Nat.mod_lt _ (by decide)
      generalize x % 5 = y at h1 h2 ⊢
      have : y = 0 ∨ y = 1 ∨ y = 2 ∨ y = 3 ∨ y = 4 := by omega
      rcases this with h | h | h | h | h <;> subst h <;> simp_all
    obtain ⟨y, rfl⟩ : ∃ y, x = 5 * y := ⟨x / 5, by omega⟩
    have e2 : b * b = 5 * y * y := by
      have : 5 * y * (5 * y) = 5 * (5 * y * y) := by simp [Nat.mul_assoc, Nat.mul_comm, Nat.mul_left_comm]
      have h3 : 5 * b * b = 5 * (b * b) := Nat.mul_assoc _ _ _
      omega
    by_cases hb : b = 0
    · exact hb
    · have hy : y < b := by
        rcases Nat.lt_or_ge y b with h | h
        · exact h
        · have h1 := Nat.mul_le_mul h h
          have h2 : 5 * y * y = 5 * (y * y) := Nat.mul_assoc _ _ _
          have h3 : 0 < b * b := Nat.mul_pos (by omega) (by omega)
          omega
      have z := five_sq n b y (by omega) e2
      subst z
      have : b * b = 0 := by omega
      exact absurd ((Nat.mul_eq_zero.mp this).elim id id) hb
theorem no_tie {x b : Int} (hb : b ≠ 0) : x * x ≠ 5 * b * b := fun e => by
  have e2 : x.natAbs * x.natAbs = 5 * b.natAbs * b.natAbs := by
    have := congrArg Int.natAbs e
    rw [Int.natAbs_mul, Int.natAbs_mul, Int.natAbs_mul] at this
    exact this
  have := five_sq b.natAbs x.natAbs b.natAbs (Nat.le_refl _) e2
  omega

abbrev tri (a b m : Int) : D := .tup [.int a, .int b, .int m]
/-- the common divisor with the sign of d -/
def cdv (a b d : Int) : Int := if d < 0 then -((Nat.gcd (Nat.gcd a.natAbs b.natAbs) d.natAbs : Nat) : Int) else ((Nat.gcd (Nat.gcd a.natAbs b.natAbs) d.natAbs : Nat) : Int)
/-- the reduced number -/
def red (a b d : Int) : D := tri (a.fdiv (cdv a b d)) (b.fdiv (cdv a b d)) (d.fdiv (cdv a b d))
theorem cdv_ne {a b d : Int} (h : d ≠ 0) : cdv a b d ≠ 0 := by
  have : 0 < Nat.gcd (Nat.gcd a.natAbs b.natAbs) d.natAbs := Nat.gcd_pos_of_pos_right _ (Int.natAbs_pos.mpr h)
  unfold cdv
  split <;> omega
theorem cdv_neg {a b d : Int} (h : d ≠ 0) : cdv (-a) (-b) (-d) = -cdv a b d := by
  unfold cdv
  rw [Int.natAbs_neg, Int.natAbs_neg, Int.natAbs_neg]
  rcases Int.lt_or_gt_of_ne h with h | h
  · rw [if_neg (by omega), if_pos h, Int.neg_neg]
  · rw [if_pos (by omega), if_neg (by omega)]
theorem red_neg {a b d : Int} (h : d ≠ 0) : red (-a) (-b) (-d) = red a b d := by
  unfold red
  rw [cdv_neg h, Int.neg_fdiv_neg, Int.neg_fdiv_neg, Int.neg_fdiv_neg]
theorem cdv_one (a b : Int) : cdv a b 1 = 1 := by
  unfold cdv
  rw [if_neg (by decide)]
  simp
theorem red_one (a b : Int) : red a b 1 = tri a b 1 := by
  unfold red
  rw [cdv_one, Int.fdiv_one, Int.fdiv_one, Int.fdiv_one]
theorem cdv_dvd (a b d : Int) : cdv a b d ∣ a ∧ cdv a b d ∣ b ∧ cdv a b d ∣ d := by
  have h1 : (((Nat.gcd (Nat.gcd a.natAbs b.natAbs) d.natAbs : Nat) : Int)) ∣ a := Int.ofNat_dvd_left.mpr (Nat.dvd_trans (Nat.gcd_dvd_left _ _) (Nat.gcd_dvd_left _ _))
  have h2 : (((Nat.gcd (Nat.gcd a.natAbs b.natAbs) d.natAbs : Nat) : Int)) ∣ b := Int.ofNat_dvd_left.mpr (Nat.dvd_trans (Nat.gcd_dvd_left _ _) (Nat.gcd_dvd_right _ _))
  have h3 : (((Nat.gcd (Nat.gcd a.natAbs b.natAbs) d.natAbs : Nat) : Int)) ∣ d := Int.ofNat_dvd_left.mpr (Nat.gcd_dvd_right _ _)
  unfold cdv
  split
  · exact ⟨Int.neg_dvd.mpr h1, Int.neg_dvd.mpr h2, Int.neg_dvd.mpr h3⟩
  · exact ⟨h1, h2, h3⟩
theorem fdiv_sz {n : Nat} {a c : Int} (h : Sz n a) (hd : c ∣ a) (hc : c ≠ 0) : Sz n (a.fdiv c) := by
  obtain ⟨k, rfl⟩ := hd
  rw [Int.mul_fdiv_cancel_left _ hc]
  have h1 : (c * k).natAbs < 2 ^ n := h
  rw [Int.natAbs_mul] at h1
  have : 1 ≤ c.natAbs := Int.natAbs_pos.mpr hc
  exact Nat.lt_of_le_of_lt (Nat.le_mul_of_pos_left _ this) h1
theorem cdv_sign {a b d : Int} (h : d ≠ 0) : (d < 0 ∧ cdv a b d < 0) ∨ (0 < d ∧ 0 < cdv a b d) := by
  have : 0 < Nat.gcd (Nat.gcd a.natAbs b.natAbs) d.natAbs := Nat.gcd_pos_of_pos_right _ (Int.natAbs_pos.mpr h)
  unfold cdv
  rcases Int.lt_or_gt_of_ne h with h | h
  · rw [if_pos h]; omega
  · rw [if_neg (by omega)]; omega
theorem fdiv_pos' {a b d : Int} (h : d ≠ 0) : 1 ≤ d.fdiv (cdv a b d) := by
  have hc := cdv_ne (a := a) (b := b) h
  have hs := cdv_sign (a := a) (b := b) h
  obtain ⟨k, e⟩ := (cdv_dvd a b d).2.2
  generalize cdv a b d = c at *
  subst e
  rw [Int.mul_fdiv_cancel_left _ hc]
  rcases hs with ⟨h1, h2⟩ | ⟨h1, h2⟩
  · rcases Int.lt_or_le 0 k with hk | hk
    · exact hk
    · have := Int.mul_nonneg_of_nonpos_of_nonpos (Int.le_of_lt h2) hk
      omega
  · rcases Int.lt_or_le 0 k with hk | hk
    · exact hk
    · have := Int.mul_nonpos_of_nonneg_of_nonpos (Int.le_of_lt h2) hk
      omega
/-- a number below 2^n -/
def Num (n : Nat) (a b d : Int) : Prop := Sz n a ∧ Sz n b ∧ Sz n d ∧ 1 ≤ d
theorem red_num {n : Nat} {a b d : Int} (ha : Sz n a) (hb : Sz n b) (hd : Sz n d) (h : d ≠ 0) : ∃ x y z, red a b d = tri x y z ∧ Num n x y z := by
  obtain ⟨d1, d2, d3⟩ := cdv_dvd a b d
  exact ⟨_, _, _, rfl, fdiv_sz ha d1 (cdv_ne h), fdiv_sz hb d2 (cdv_ne h), fdiv_sz hd d3 (cdv_ne h), fdiv_pos' h⟩
theorem cdv_sz {n : Nat} {a b d : Int} (hd : Sz n d) (h : d ≠ 0) : Sz n (cdv a b d) := by
  obtain ⟨k, e⟩ := (cdv_dvd a b d).2.2
  have hk : k ≠ 0 := fun z => h (by rw [e, z, Int.mul_zero])
  have h1 : d.natAbs < 2 ^ n := hd
  have h2 : d.natAbs = (cdv a b d).natAbs * k.natAbs := by
    conv => lhs; rw [e]
    exact Int.natAbs_mul _ _
  rw [h2] at h1
  exact Nat.lt_of_le_of_lt (Nat.le_mul_of_pos_right _ (Int.natAbs_pos.mpr hk)) h1
/-- Euclid -/
theorem gcd_step {x y : Int} (hx : 0 ≤ x) (hy : 0 < y) : Nat.gcd y.natAbs (x % y).natAbs = Nat.gcd x.natAbs y.natAbs := by
  have e : (x % y).natAbs = x.natAbs % y.natAbs := by
    rw [Int.natAbs_emod_of_nonneg hx]
  rw [e, Nat.gcd_comm y.natAbs, ← Nat.gcd_rec, Nat.gcd_comm]
/-- the norm is zero for zero alone -/
theorem norm_ne {c e : Int} (h : ¬ (c = 0 ∧ e = 0)) : c * c + c * e - e * e ≠ 0 := fun z => by
  have h5 : (2 * c + e) * (2 * c + e) = 5 * e * e := by
    have : (2 * c + e) * (2 * c + e) = 4 * (c * c + c * e - e * e) + 5 * e * e := by
      simp only [Int.mul_add, Int.add_mul, Int.mul_sub, Int.mul_assoc, Int.mul_left_comm _ 2, Int.mul_comm e c]
      omega
    omega
  by_cases he : e = 0
  · subst he
    have : c * c = 0 := by simpa using z
    rcases Int.mul_eq_zero.mp this with h1 | h1 <;> exact h ⟨h1, rfl⟩
  · exact no_tie he h5
theorem Num.up {n m : Nat} {a b d : Int} (h : Num n a b d) (e : n ≤ m) : Num m a b d := ⟨h.1.mono e, h.2.1.mono e, h.2.2.1.mono e, h.2.2.2⟩
theorem Num.ok {n m : Nat} {a b d c e f : Int} (h : Num n a b d) (k : Num m c e f) (l : n + m ≤ 400000) : MulOk a f ∧ MulOk c d ∧ MulOk b f ∧ MulOk e d ∧ MulOk d f ∧ MulOk a c ∧ MulOk b e ∧ MulOk a e ∧ MulOk b c :=
  ⟨h.1.ok k.2.2.1 (by omega), k.1.ok h.2.2.1 (by omega), h.2.1.ok k.2.2.1 (by omega), k.2.1.ok h.2.2.1 (by omega), h.2.2.1.ok k.2.2.1 (by omega), h.1.ok k.1 (by omega), h.2.1.ok k.2.1 (by omega), h.1.ok k.2.1 (by omega), h.2.1.ok k.1 (by omega)⟩
theorem add_sz {n m : Nat} {a b d c e f : Int} (h : Num n a b d) (k : Num m c e f) : Sz (n + m + 1) (a * f + c * d) ∧ Sz (n + m + 1) (b * f + e * d) ∧ Sz (n + m + 1) (d * f) ∧ 1 ≤ d * f :=
  ⟨(h.1.mul k.2.2.1).add ((k.1.mul h.2.2.1).mono (by omega)), (h.2.1.mul k.2.2.1).add ((k.2.1.mul h.2.2.1).mono (by omega)), (h.2.2.1.mul k.2.2.1).mono (by omega), Int.mul_pos h.2.2.2 k.2.2.2⟩
theorem mul_sz {n m : Nat} {a b d c e f : Int} (h : Num n a b d) (k : Num m c e f) : Sz (n + m + 2) (a * c + b * e) ∧ Sz (n + m + 2) (a * e + b * c + b * e) ∧ Sz (n + m + 2) (d * f) ∧ 1 ≤ d * f :=
  ⟨((h.1.mul k.1).add (h.2.1.mul k.2.1)).mono (by omega), ((h.1.mul k.2.1).add (h.2.1.mul k.1)).add ((h.2.1.mul k.2.1).mono (by omega)), (h.2.2.1.mul k.2.2.1).mono (by omega), Int.mul_pos h.2.2.2 k.2.2.2⟩
theorem Num.neg {n : Nat} {a b d : Int} (h : Num n a b d) : Num n (-a) (-b) d := ⟨h.1.neg, h.2.1.neg, h.2.2⟩
theorem con_sz {n : Nat} {a b d : Int} (h : Num n a b d) : Sz (n + 1) (a + b) ∧ Sz (n + 1) (-b) ∧ Sz (n + 1) d := ⟨h.1.add h.2.1, h.2.1.neg.mono (by omega), h.2.2.1.mono (by omega)⟩
theorem Num.one {n : Nat} {a b d : Int} (h : Num n a b d) : Num n a b 1 := ⟨h.1, h.2.1, by
  have h1 : d.natAbs < 2 ^ n := h.2.2.1
  have h2 := h.2.2.2
  show (1 : Int).natAbs < 2 ^ n
  have : (1 : Int).natAbs = 1 := rfl
  omega, by decide⟩
theorem quo_sz {n m : Nat} {a b d c e f : Int} (h : Num n a b d) (k : Num m c e f) : Sz (n + m + 2) (a * (c + e) - b * e) ∧ Sz (n + m + 2) (b * c - a * e) ∧ Sz (m + m + 2) (c * c + c * e - e * e) ∧ Sz (m + 1) (c + e) :=
  ⟨((h.1.mul (k.1.add k.2.1)).sub ((h.2.1.mul k.2.1).mono (by omega))).mono (by omega), ((h.2.1.mul k.1).sub (h.1.mul k.2.1)).mono (by omega), ((k.1.mul k.1).add (k.1.mul k.2.1)).sub ((k.2.1.mul k.2.1).mono (by omega)), k.1.add k.2.1⟩
/-- the sign of a + b g -/
def psg (a b : Int) : Int :=
  if 0 ≤ 2 * a + b ∧ 0 ≤ b then (if 0 < 2 * a + b ∨ 0 < b then 1 else 0)
  else if 2 * a + b ≤ 0 ∧ b ≤ 0 then -1
  else if 0 < 2 * a + b then (if 5 * b * b < (2 * a + b) * (2 * a + b) then 1 else -1)
  else if 5 * b * b < (2 * a + b) * (2 * a + b) then -1 else 1
theorem psg_neg (a b : Int) : psg (-a) (-b) = -psg a b := by
  have e : 2 * -a + -b = -(2 * a + b) := by omega
  have e2 : 5 * -b * -b = 5 * b * b := by rw [Int.mul_neg, Int.mul_neg, Int.neg_mul, Int.neg_neg]
  unfold psg
  rw [e, e2, Int.neg_mul_neg]
  generalize 2 * a + b = x
  by_cases h : 5 * b * b < x * x
  · rw [if_pos h, if_pos h]
    repeat' split
    all_goals first | rfl | omega
  · rw [if_neg h, if_neg h]
    repeat' split
    all_goals first | rfl | omega
def flr (a b m : Int) : Int := if 0 ≤ b then (2 * a + b + ((Float64.isqrt (5 * b * b).toNat : Nat) : Int)) / (2 * m) else (2 * a + b - ((Float64.isqrt (5 * b * b).toNat : Nat) : Int) - 1) / (2 * m)
theorem sq_lt {x y : Int} (h0 : 0 ≤ x) (h : x < y) : x * x < y * y := Int.mul_lt_mul' (Int.le_of_lt h) h h0 (by omega)
theorem sq_le {x y : Int} (h0 : 0 ≤ x) (h : x ≤ y) : x * x ≤ y * y := Int.mul_le_mul h h h0 (by omega)
theorem root5 (b : Int) : ∃ r : Int, ((Float64.isqrt (5 * b * b).toNat : Nat) : Int) = r ∧ 0 ≤ r ∧ r * r ≤ 5 * b * b ∧ 5 * b * b < (r + 1) * (r + 1) := by
  have hn : 0 ≤ 5 * b * b := by
    rw [Int.mul_assoc]
    exact Int.mul_nonneg (by decide) (by
      rcases Int.le_total 0 b with h | h
      · exact Int.mul_nonneg h h
      · exact Int.mul_nonneg_of_nonpos_of_nonpos h h)
  obtain ⟨n, hn2⟩ := Int.eq_ofNat_of_zero_le hn
  obtain ⟨h1, h2⟩ := Float64.isqrt_spec n
  rw [hn2]
  refine ⟨_, rfl, Int.natCast_nonneg _, ?_, ?_⟩
  · rw [Int.toNat_natCast]
    exact_mod_cast h1
  · rw [Int.toNat_natCast]
    exact_mod_cast h2
theorem flr_ok {a b m : Int} (hm : 1 ≤ m) : 0 ≤ psg (a - flr a b m * m) b ∧ psg (a - (flr a b m + 1) * m) b < 0 := by
  obtain ⟨r, er, r0, r1, r2⟩ := root5 b
  unfold flr
  rw [er]
  have key : ∀ k : Int, 2 * (a - k * m) + b = (2 * a + b) - k * (2 * m) := fun k => by
    have : k * (2 * m) = 2 * (k * m) := by rw [Int.mul_left_comm]
    omega
  unfold psg
  rw [key, key]
  have hM : 0 < 2 * m := by omega
  by_cases hb : 0 ≤ b
  · rw [if_pos hb]
    generalize hx : 2 * a + b = x
    have q1 := Int.ediv_mul_le (x + r) (Int.ne_of_gt hM)
    have q2 := Int.lt_ediv_add_one_mul_self (x + r) hM
    generalize (x + r) / (2 * m) * (2 * m) = u at q1 ⊢
    generalize ((x + r) / (2 * m) + 1) * (2 * m) = v at q2 ⊢
    constructor
    · by_cases c : 0 ≤ x - u
      · rw [if_pos ⟨c, hb⟩]
        split <;> decide
      · have c2 : ¬ 5 * b * b < (x - u) * (x - u) := by
          have := sq_le (x := u - x) (y := r) (by omega) (by omega)
          have e : (u - x) * (u - x) = (x - u) * (x - u) := by rw [← Int.neg_mul_neg]; congr 1 <;> omega
          omega
        rw [if_neg (fun z => c z.1)]
        by_cases c3 : b ≤ 0
        · have hb0 : b = 0 := by omega
          subst hb0
          have r00 : r = 0 := by
            rcases Int.lt_or_le 0 r with h | h
            · have := Int.mul_pos h h
              simp at r1
              omega
            · omega
          omega
        · rw [if_neg (fun z => c3 z.2), if_neg (by omega), if_neg c2]
          decide
    · have c : ¬ 0 ≤ x - v := by omega
      rw [if_neg (fun z => c z.1)]
      by_cases c3 : b ≤ 0
      · rw [if_pos ⟨by omega, c3⟩]
        decide
      · have c2 : 5 * b * b < (x - v) * (x - v) := by
          have := sq_le (x := r + 1) (y := v - x) (by omega) (by omega)
          have e : (v - x) * (v - x) = (x - v) * (x - v) := by rw [← Int.neg_mul_neg]; congr 1 <;> omega
          omega
        rw [if_neg (fun z => c3 z.2), if_neg (by omega), if_pos c2]
        decide
  · rw [if_neg hb]
    generalize hx : 2 * a + b = x
    have q1 := Int.ediv_mul_le (x - r - 1) (Int.ne_of_gt hM)
    have q2 := Int.lt_ediv_add_one_mul_self (x - r - 1) hM
    generalize (x - r - 1) / (2 * m) * (2 * m) = u at q1 ⊢
    generalize ((x - r - 1) / (2 * m) + 1) * (2 * m) = v at q2 ⊢
    constructor
    · rw [if_neg (fun z => hb z.2), if_neg (by omega), if_pos (by omega)]
      have := sq_le (x := r + 1) (y := x - u) (by omega) (by omega)
      rw [if_pos (by omega)]
      decide
    · rw [if_neg (fun z => hb z.2)]
      by_cases c : x - v ≤ 0
      · rw [if_pos ⟨c, by omega⟩]
        decide
      · have := sq_le (x := x - v) (y := r) (by omega) (by omega)
        rw [if_neg (fun z => c z.1), if_pos (by omega), if_neg (by omega)]
        decide
theorem pair_sz {a b : Int} (ha : Sz 200000 a) (hb : Sz 200000 b) : MulOk 2 a ∧ MulOk (2 * a + b) (2 * a + b) ∧ MulOk 5 b ∧ MulOk (5 * b) b := by
  have h2 : Sz 2 (2 : Int) := by decide
  have h5 : Sz 3 (5 : Int) := by decide
  have hx : Sz 200003 (2 * a + b) := ((h2.mul ha).mono (by decide : 2 + 200000 ≤ 200002)).add (hb.mono (by decide))
  exact ⟨h2.ok ha (by decide), hx.ok hx (by decide), h5.ok hb (by decide), (h5.mul hb).ok hb (by decide)⟩
theorem flr_sz {a b m : Int} (h : Num 6000 a b m) : MulOk 2 a ∧ MulOk 2 m ∧ MulOk 5 b ∧ MulOk (5 * b) b ∧ 0 ≤ 5 * b * b ∧ (5 * b * b).toNat.log2 < 13000 ∧ 0 < m ∧ (2 * m).natAbs.log2 < 9000 := by
  obtain ⟨h1, h2, h3, h4⟩ := h
  have e2 : Sz 2 (2 : Int) := by decide
  have e5 : Sz 3 (5 : Int) := by decide
  have hs := (e5.mul h2).mul h2
  obtain ⟨r, _, r0, r1, _⟩ := root5 b
  have r2 : 0 ≤ r * r := Int.mul_nonneg r0 r0
  have hp : 0 ≤ 5 * b * b := Int.le_trans r2 r1
  have hl := hs.log
  have ht : (5 * b * b).toNat = (5 * b * b).natAbs := by omega
  rw [ht]
  have hm := (e2.mul h3).log
  exact ⟨e2.ok h1 (by decide), e2.ok h3 (by decide), e5.ok h2 (by decide), (e5.mul h2).ok h2 (by decide), hp, by omega, by omega, by omega⟩
def wholeB (a b m : Int) : Bool := if a % m = 0 then decide (b % m = 0) else false
mutual
theorem pl_plain : ∀ (n : Nat) (d : D), pl n d = true → (toPy d).plain = true
  | _, .non, _ => rfl
  | _, .bl _, _ => rfl
  | _, .int _, _ => rfl
  | _, .str _, _ => rfl
  | 0, .tup _, p => by simp [pl] at p
  | 0, .lst _, p => by simp [pl] at p
  | n + 1, .tup xs, p => by
    simp only [pl] at p
    simp only [toPy, PyData.plain]
    exact pls_plain n xs p
  | n + 1, .lst xs, p => by
    simp only [pl] at p
    simp only [toPy, PyData.plain]
    exact pls_plain n xs p
  | _, .dic _, p => by simp [pl] at p
  | _, .obj _ _, p => by simp [pl] at p
  | _, .opq _, p => by simp [pl] at p
theorem pls_plain : ∀ (n : Nat) (d : List D), pls n d = true → PyData.plainAll (toPys d) = true
  | _, [], _ => rfl
  | n, x :: xs, p => by
    simp only [pls, Bool.and_eq_true] at p
    simp only [toPys, PyData.plainAll, Bool.and_eq_true]
    exact ⟨pl_plain n x p.1, pls_plain n xs p.2⟩
end
theorem eqb_refl {n : Nat} {x : D} (h : pl n x = true) : eqb x x = true := PySem.SeqAt.eqv_refl_plain _ (pl_plain n x h)
theorem eqD_refl {x : D} {Q : D → Prop} (h : pl 64 x = true) (q : Q (.bl true)) : eqD x x Q := by
  cases x with
  | str a => simpa [eqD] using q
  | _ => exact ⟨h, h, by rw [eqb_refl h]; exact q⟩
theorem red_prop {a b d : Int} (h : d ≠ 0) : ∃ p q r, red a b d = tri p q r ∧ 1 ≤ r ∧ p * d = a * r ∧ q * d = b * r := by
  obtain ⟨d1, d2, d3⟩ := cdv_dvd a b d
  have hc := cdv_ne (a := a) (b := b) h
  refine ⟨_, _, _, rfl, fdiv_pos' h, ?_, ?_⟩
  · obtain ⟨x, e1⟩ := d1
    obtain ⟨z, e3⟩ := d3
    have f1 : a.fdiv (cdv a b d) = x := by conv => lhs; lhs; rw [e1]
                                           exact Int.mul_fdiv_cancel_left _ hc
    have f3 : d.fdiv (cdv a b d) = z := by conv => lhs; lhs; rw [e3]
                                           exact Int.mul_fdiv_cancel_left _ hc
    rw [f1, f3]
    generalize cdv a b d = c at *
    rw [e1, e3, Int.mul_assoc, Int.mul_left_comm]
  · obtain ⟨x, e1⟩ := d2
    obtain ⟨z, e3⟩ := d3
    have f1 : b.fdiv (cdv a b d) = x := by conv => lhs; lhs; rw [e1]
                                           exact Int.mul_fdiv_cancel_left _ hc
    have f3 : d.fdiv (cdv a b d) = z := by conv => lhs; lhs; rw [e3]
                                           exact Int.mul_fdiv_cancel_left _ hc
    rw [f1, f3]
    generalize cdv a b d = c at *
    rw [e1, e3, Int.mul_assoc, Int.mul_left_comm]
def isNum : D → Bool
  | .tup [a, b, c] => isI a && isI b && isI c && decide (1 ≤ nOf c)
  | _ => false
theorem num_len {xs : List D} (h : ¬ xs.length = 3) : isNum (.tup xs) = false := by
  match xs, h with
  | [], _ => rfl
  | [_], _ => rfl
  | [_, _], _ => rfl
  | [_, _, _], h => exact absurd rfl h
  | _ :: _ :: _ :: _ :: _, _ => rfl
theorem num_n {x : D} (h : isNum x = true) : ∃ a b c, x = tri a b c ∧ 1 ≤ c := by
  cases x with
  | tup xs =>
    by_cases hl : xs.length = 3
    · obtain ⟨a, b, c, rfl⟩ := len3 hl
      simp only [isNum, Bool.and_eq_true, decide_eq_true_eq] at h
      obtain ⟨⟨⟨h1, h2⟩, h3⟩, h4⟩ := h
      obtain ⟨i, rfl⟩ := isI_n h1
      obtain ⟨j, rfl⟩ := isI_n h2
      obtain ⟨k, rfl⟩ := isI_n h3
      exact ⟨i, j, k, rfl, h4⟩
    · rw [num_len hl] at h
      cases h
  | _ => cases h
theorem num_tri {a b c : Int} (h : 1 ≤ c) : isNum (tri a b c) = true := by
  show (true && true && true && decide (1 ≤ c)) = true
  simp [h]
/-- typed, and its parts are -/
def Ty1 (known : Str → Bool) (x : D) : Prop := tyX known x = true ∧ ∀ xs, x = .tup xs → ∀ y ∈ xs, tyX known y = true
theorem ty1_rp {known : Str → Bool} {x : D} (h : rp 64 x = true) : Ty1 known x := ⟨tyX_ty (rp_ty h), fun xs e y m => by
  subst e
  exact tyX_ty (rp_tup h y m)⟩
theorem ty1_tri {known : Str → Bool} (a b c : Int) : Ty1 known (tri a b c) := ⟨rfl, fun xs e y m => by
  cases e
  simp only [List.mem_cons, List.not_mem_nil, or_false] at m
  rcases m with rfl | rfl | rfl <;> rfl⟩
theorem ty1_obj {known : Str → Bool} {n : Str} {fs : List (Str × D)} (h : known n = true) : Ty1 known (.obj n fs) := ⟨h, fun _ e => by cases e⟩
end ND

/-! ND36: evaluation, more of it (first written for k11, k10) -/
namespace ND
open PySem PySem.Spec L2
abbrev Pt (x : D) : Prop := Pok 8 300 210000 x
theorem Pt.rokT {x : D} (h : Pt x) (nd : isDct (toPy x) = false) : Rok x := h.rok (by decide) (by decide) (by decide) nd
theorem c60 : (2 : Nat) ^ 240 ≤ 10 ^ 4300 := by decide +kernel
theorem c400 : (2 : Nat) ^ 400 ≤ 10 ^ 4300 := by decide +kernel
theorem ret_ev {σ : List SV} {f : GE} {x : D} {E : Ed} (h : Ev σ f x) (q : E.rt x) : gRet f E σ := h.run _ q
section
variable {σ xs : List SV} {f g : GE} {x y : D} {s t : GS} {E : Ed}
theorem seq_par2E {i j : Nat} (a : Ev σ f x) (b : Ev σ g y) (q : s E (setAll [i, j] [x, y] σ)) : gSeq (gPar [i, j] (ND.gCons f (ND.gCons g ND.gNil))) s E σ := a.run _ (b.run _ ⟨rfl, q⟩)
theorem seq_okF {k : Nat} (e : fz k σ = xs) (a : Ev xs f (.bl true)) (q : t E xs) : gSeq (gFz k (gIfS (gNotT (gTru f)) s gSkip)) t E σ := by
  subst e
  exact a.run _ (by simpa using q)
theorem Ev.ifb {b : Bool} {h : GE} (a : Ev σ f (.bl b)) (k1 : b = true → Ev σ g x) (k2 : b = false → Ev σ h x) : Ev σ (gIf (gTru f) g h) x := ⟨fun Q q => a.run _ (by
  cases b
  · simpa using (k2 rfl).run _ q
  · simpa using (k1 rfl).run _ q)⟩
theorem Ev.andb {b : Bool} (a : Ev σ f (.bl b)) (k1 : b = true → Ev σ g x) (k2 : b = false → x = .bl false) : Ev σ (gAnd f g) x := ⟨fun Q q => a.run _ (by
  cases b
  · have := k2 rfl
    subst this
    simpa using q
  · simpa using (k1 rfl).run _ q)⟩
end
section
variable {σ : List SV} {f g : GE} {x : D} {i j : Int} {known : Str → Bool}
theorem Ev.isx {T : String} {b : Bool} (h : Ev σ f x) (hk : knownT T = true) (hs : tyX known x = true) (hb : isiB T x = b) : Ev σ (gBlt (isiX known) (ND.gCons f (ND.gCons (gC (.opq (.ty T))) ND.gNil))) (.bl b) := ⟨fun Q q => h.run _ ⟨hk, hs, by rw [hb]; exact q⟩⟩
theorem Ev.mulI (h : Ev σ f (.int i)) (k : Ev σ g (.int j)) (o : MulOk i j) : Ev σ (gBin mulD f g) (.int (i * j)) := ⟨fun Q q => h.run _ (k.run _ ⟨o, q⟩)⟩
theorem Ev.abs (h : Ev σ f (.int i)) : Ev σ (gBlt absD (ND.gCons f ND.gNil)) (.int (if i < 0 then -i else i)) := ⟨fun Q q => h.run _ (by simpa [absD] using q)⟩
end
structure EvL (σ : List SV) (f : GA) (P : List D → Prop) : Prop where
  run : ∀ Q : List D → Prop, (∀ x, P x → Q x) → f σ Q
section
variable {σ : List SV} {f g h : GE} {fs fi : GA} {s s' t : GS} {E : Ed} {P P' P2 : D → Prop}
theorem seq_setT3 {i j k : Nat} (a : EvP σ f P) (b : EvP σ g P') (c : EvP σ h P2) (q : ∀ x y z, P x → P' y → P2 z → s E (setAll [i, j, k] [x, y, z] σ)) : gSeq (gSetT [i, j, k] (ND.gTup (ND.gCons f (ND.gCons g (ND.gCons h ND.gNil))))) s E σ :=
  a.run _ fun x hx => b.run _ fun y hy => c.run _ fun z hz => ⟨by simp, [x, y, z], rfl, rfl, q x y z hx hy hz⟩
theorem seq_setLP {k : Nat} {P : List D → Prop} (a : EvL σ fs P) (q : ∀ xs, P xs → s E (σ.set k (.ol xs))) : gSeq (gSetL k fs) s E σ := a.run _ q
theorem seq_setP {k : Nat} (a : EvP σ f P) (q : ∀ x, P x → s E (σ.set k (.d x))) : gSeq (gSet k f) s E σ := a.run _ q
theorem seq_ifP (a : EvP σ f fun x => ∃ b, x = .bl b) (q1 : gSeq s t E σ) (q2 : gSeq s' t E σ) : gSeq (gIfS (gB f) s s') t E σ := a.run _ fun x ⟨b, e⟩ => by
  subst e
  cases b
  · exact q2
  · exact q1
theorem seq_ifI {P : List SV → Prop} (h : EvP σ f fun x => ∃ b, x = .bl b) (rest : ∀ σ', P σ' → t E σ') (q1 : (∀ σ', P σ' → t E σ') → gSeq s t E σ) (q2 : (∀ σ', P σ' → t E σ') → gSeq s' t E σ) : gSeq (gIfS (gB f) s s') t E σ := seq_ifP h (q1 rest) (q2 rest)
theorem seq_setI {k j : Nat} {i : Int} {x : D} {xs : List D} (hk : σ[k]? = some (.ol xs)) (a : Ev σ f x) (b : Ev σ g (.int i)) (hj : ixN xs.length i = some j) (q : t E (σ.set k (.ol (xs.set j x)))) : gSeq (gSetI k f g) t E σ := ⟨xs, hk, a.run _ (b.run _ ⟨i, j, rfl, hj, q⟩)⟩
theorem Ev.varBl {n : Nat} {xs : List D} (h : σ[n]? = some (.ol xs)) : Ev σ (gVarB n) (.lst xs) := ⟨fun Q q => by
  unfold gVarB
  rw [h]
  exact q⟩
theorem Ev.varBd {n : Nat} {x : D} (h : σ[n]? = some (.d x)) : Ev σ (gVarB n) x := ⟨fun Q q => by
  unfold gVarB
  rw [h]
  exact q⟩
theorem Ev.ixl {xs : List D} {i : Int} {x : D} (a : Ev σ f (.lst xs)) (b : Ev σ g (.int i)) (h : atI xs i = some x) : Ev σ (gBin ixD f g) x := ⟨fun Q q => a.run _ (b.run _ ⟨x, h, q⟩)⟩
theorem Ev.ixt {xs : List D} {i : Int} {x : D} (a : Ev σ f (.tup xs)) (b : Ev σ g (.int i)) (h : atI xs i = some x) : Ev σ (gBin ixD f g) x := ⟨fun Q q => a.run _ (b.run _ ⟨x, h, q⟩)⟩
theorem seq_two (a : Ev σ f (.bl true)) (b : Ev σ g (.bl true)) (q : t E σ) : gSeq (gIfS (gOrT (gNotT (gTru f)) (gNotT (gTru g))) s gSkip) t E σ := by
  refine a.run _ ?_
  simp
  refine b.run _ ?_
  simpa using q
theorem if_two (a : Ev σ f (.bl true)) (b : Ev σ g (.bl true)) (q : E.nx σ) : gIfS (gOrT (gNotT (gTru f)) (gNotT (gTru g))) s gSkip E σ := by
  refine a.run _ ?_
  simp
  refine b.run _ ?_
  simpa using q
end
/-- many a small value of ints -/
theorem int_tup' {k : Nat} {ys : List D} (h : ∀ y ∈ ys, ∃ i, y = .int i ∧ Sz k i) : Pok 1 k (4303 * ys.length + 3) (.tup ys) ∧ Pok 1 k (4303 * ys.length + 3) (.lst ys) := by
  have : rps 0 ys = true ∧ sms (2 ^ k) ys = true ∧ rszs ys = 4303 * ys.length := by
    induction ys with
    | nil => simp [rps, sms, rszs]
    | cons y ys ih =>
      obtain ⟨i, rfl, hi⟩ := h y List.mem_cons_self
      obtain ⟨h1, h2, h3⟩ := ih fun z m => h z (List.mem_cons_of_mem _ m)
      refine ⟨by simp [rps, rp, h1], ?_, by simp [rszs, rsz, h3]; omega⟩
      simp only [sms, Bool.and_eq_true]
      exact ⟨hi.sm, h2⟩
  obtain ⟨h1, h2, h3⟩ := this
  exact ⟨h3 ▸ pok_tup h1 h2, h3 ▸ pok_lst h1 h2⟩
end ND

/-! ND37: == of any value and a value without dicts -/
namespace ND
open PySem PySem.SeqAt
section
open AutoSeq1 (wpAny_loadPart')
open MeetsSeq
def IsDct (h : Heap) (a : Addr) (es : Array DictEntry) : Prop := ∃ o, h.get? a = some o ∧ o.cls = .type "dict" ∧ ∃ n, o.data = .dict es n
theorem dict_eq_none (l : Addr) (es : Array DictEntry) (n : Nat) (dd : Option Addr) (sl : Array (Option Value))  :
    Meets (Builtin.«dict.__eq__» ⟨[.ref l, .none], []⟩) (fun _ R s => s.heap.get? l = some { cls := .type "dict", dict := dd, data := .dict es n, slots := sl } ∧ R (.ok (.ret .notImplemented)) s) :=
  .of_wp fun prog w A R s h => by obtain ⟨hp, g, d, tk, os⟩ := s; obtain ⟨hl, h⟩ := h; have f1 := F.sub_NoneType_dict; wp_walk using wpAny_loadPart' hl; exact ⟨_, rfl, h⟩
theorem dict_eq_bool (l : Addr) (es : Array DictEntry) (n : Nat) (dd : Option Addr) (sl : Array (Option Value)) (b : Bool) :
    Meets (Builtin.«dict.__eq__» ⟨[.ref l, .bool b], []⟩) (fun _ R s => s.heap.get? l = some { cls := .type "dict", dict := dd, data := .dict es n, slots := sl } ∧ R (.ok (.ret .notImplemented)) s) :=
  .of_wp fun prog w A R s h => by obtain ⟨hp, g, d, tk, os⟩ := s; obtain ⟨hl, h⟩ := h; have f1 := F.sub_bool_dict; wp_walk using wpAny_loadPart' hl; exact ⟨_, rfl, h⟩
theorem dict_eq_int (l : Addr) (es : Array DictEntry) (n : Nat) (dd : Option Addr) (sl : Array (Option Value)) (b : Int) (u : Tok) :
    Meets (Builtin.«dict.__eq__» ⟨[.ref l, .int b u], []⟩) (fun _ R s => s.heap.get? l = some { cls := .type "dict", dict := dd, data := .dict es n, slots := sl } ∧ R (.ok (.ret .notImplemented)) s) :=
  .of_wp fun prog w A R s h => by obtain ⟨hp, g, d, tk, os⟩ := s; obtain ⟨hl, h⟩ := h; have f1 := F.sub_int_dict; wp_walk using wpAny_loadPart' hl; exact ⟨_, rfl, h⟩
theorem dict_eq_str (l : Addr) (es : Array DictEntry) (n : Nat) (dd : Option Addr) (sl : Array (Option Value)) (b : Str) (u : Tok) :
    Meets (Builtin.«dict.__eq__» ⟨[.ref l, .str b u], []⟩) (fun _ R s => s.heap.get? l = some { cls := .type "dict", dict := dd, data := .dict es n, slots := sl } ∧ R (.ok (.ret .notImplemented)) s) :=
  .of_wp fun prog w A R s h => by obtain ⟨hp, g, d, tk, os⟩ := s; obtain ⟨hl, h⟩ := h; have f1 := F.sub_str_dict; wp_walk using wpAny_loadPart' hl; exact ⟨_, rfl, h⟩
theorem int_eq_dict_bool (b : Bool) (l : Addr) (es : Array DictEntry) (n : Nat) (dd : Option Addr) (sl : Array (Option Value)) :
    Meets (Builtin.«int.__eq__» ⟨[.bool b, .ref l], []⟩) (fun _ R s => s.heap.get? l = some { cls := .type "dict", dict := dd, data := .dict es n, slots := sl } ∧ R (.ok (.ret .notImplemented)) s) :=
  .of_wp fun prog w A R s h => by obtain ⟨hp, g, d, tk, os⟩ := s; obtain ⟨hl, h⟩ := h; wp_walk using wpAny_loadPart' hl, wpAny_load hl; exact ⟨_, rfl, h⟩
theorem int_eq_dict_int (b : Int) (u : Tok) (l : Addr) (es : Array DictEntry) (n : Nat) (dd : Option Addr) (sl : Array (Option Value)) :
    Meets (Builtin.«int.__eq__» ⟨[.int b u, .ref l], []⟩) (fun _ R s => s.heap.get? l = some { cls := .type "dict", dict := dd, data := .dict es n, slots := sl } ∧ R (.ok (.ret .notImplemented)) s) :=
  .of_wp fun prog w A R s h => by obtain ⟨hp, g, d, tk, os⟩ := s; obtain ⟨hl, h⟩ := h; wp_walk using wpAny_loadPart' hl, wpAny_load hl; exact ⟨_, rfl, h⟩
theorem str_eq_dict (b : Str) (u : Tok) (l : Addr) (es : Array DictEntry) (n : Nat) (dd : Option Addr) (sl : Array (Option Value)) :
    Meets (Builtin.«str.__eq__» ⟨[.str b u, .ref l], []⟩) (fun _ R s => s.heap.get? l = some { cls := .type "dict", dict := dd, data := .dict es n, slots := sl } ∧ R (.ok (.ret .notImplemented)) s) :=
  .of_wp fun prog w A R s h => by obtain ⟨hp, g, d, tk, os⟩ := s; obtain ⟨hl, h⟩ := h; wp_walk using wpAny_loadPart' hl, wpAny_load hl; exact ⟨_, rfl, h⟩
theorem list_eq_dict (l b : Addr) (items : Array Value) (es : Array DictEntry) (n n2 : Nat) (dd dd2 : Option Addr) (sl sl2 : Array (Option Value)) :
    Meets (Builtin.«list.__eq__» ⟨[.ref l, .ref b], []⟩) (fun _ R s => s.heap.get? l = some { cls := .type "list", dict := dd2, data := .seq items n2, slots := sl2 } ∧ s.heap.get? b = some { cls := .type "dict", dict := dd, data := .dict es n, slots := sl } ∧ R (.ok (.ret .notImplemented)) s) :=
  .of_wp fun prog w A R s h => by obtain ⟨hp, g, d, tk, os⟩ := s; obtain ⟨hl, hb, h⟩ := h; have f1 := F.sub_dict_list; wp_walk using wpAny_loadPart' hl, wpAny_loadPart' hb; exact ⟨_, rfl, h⟩
theorem dict_eq_list (l b : Addr) (items : Array Value) (es : Array DictEntry) (n n2 : Nat) (dd dd2 : Option Addr) (sl sl2 : Array (Option Value)) :
    Meets (Builtin.«dict.__eq__» ⟨[.ref l, .ref b], []⟩) (fun _ R s => s.heap.get? l = some { cls := .type "dict", dict := dd, data := .dict es n, slots := sl } ∧ s.heap.get? b = some { cls := .type "list", dict := dd2, data := .seq items n2, slots := sl2 } ∧ R (.ok (.ret .notImplemented)) s) :=
  .of_wp fun prog w A R s h => by obtain ⟨hp, g, d, tk, os⟩ := s; obtain ⟨hl, hb, h⟩ := h; have f1 := F.sub_list_dict; wp_walk using wpAny_loadPart' hl, wpAny_loadPart' hb; exact ⟨_, rfl, h⟩
theorem tuple_eq_dict (l b : Addr) (items : Array Value) (es : Array DictEntry) (n n2 : Nat) (dd dd2 : Option Addr) (sl sl2 : Array (Option Value)) :
    Meets (Builtin.«tuple.__eq__» ⟨[.ref l, .ref b], []⟩) (fun _ R s => s.heap.get? l = some { cls := .type "tuple", dict := dd2, data := .seq items n2, slots := sl2 } ∧ s.heap.get? b = some { cls := .type "dict", dict := dd, data := .dict es n, slots := sl } ∧ R (.ok (.ret .notImplemented)) s) :=
  .of_wp fun prog w A R s h => by obtain ⟨hp, g, d, tk, os⟩ := s; obtain ⟨hl, hb, h⟩ := h; have f1 := F.sub_dict_tuple; wp_walk using wpAny_loadPart' hl, wpAny_loadPart' hb; exact ⟨_, rfl, h⟩
theorem dict_eq_tuple (l b : Addr) (items : Array Value) (es : Array DictEntry) (n n2 : Nat) (dd dd2 : Option Addr) (sl sl2 : Array (Option Value)) :
    Meets (Builtin.«dict.__eq__» ⟨[.ref l, .ref b], []⟩) (fun _ R s => s.heap.get? l = some { cls := .type "dict", dict := dd, data := .dict es n, slots := sl } ∧ s.heap.get? b = some { cls := .type "tuple", dict := dd2, data := .seq items n2, slots := sl2 } ∧ R (.ok (.ret .notImplemented)) s) :=
  .of_wp fun prog w A R s h => by obtain ⟨hp, g, d, tk, os⟩ := s; obtain ⟨hl, hb, h⟩ := h; have f1 := F.sub_tuple_dict; wp_walk using wpAny_loadPart' hl, wpAny_loadPart' hb; exact ⟨_, rfl, h⟩
variable {A : Around} {s : Shared}
theorem rc_dict_none {l : Addr} {es : Array DictEntry}  (hl : IsDct s.heap l es) (hu : A.units < cLine) : RcAt A s (.ref l) (.none) false := fun prog w E Q h => by
  obtain ⟨⟨cls, dd, data, sl⟩, ho, hc, n, hd⟩ := id hl
  simp only at hc hd
  subst hc hd
  exact rc_eq_decline_or (k := false) ⟨_, ho, rfl⟩ rfl (by decide) F.sub_NoneType_dict F.slot_dict_eq F.slot_NoneType_eq_refl
    (fun _ hq => call_meets F.slot_dict_eq ⟨_, ho, rfl⟩ F.entry_dict_eq (F.args_dict_eq_2 _ _) (dict_eq_none l es n dd sl ) ⟨ho, hq⟩)
    (fun _ hq => call_gives F.slot_NoneType_eq_refl rfl F.entry_NoneType_eq (F.args_NoneType_eq_2 _ _) (NoneType___eq___none_ref_0 l) hq)
    (fun _ hq => wpAny_of_eq (rfl : isSame (.ref l) (.none) = pure false) hq) (.inr hu) h
theorem eq_dict_none {l : Addr} {es : Array DictEntry}  (hl : IsDct s.heap l es) (hu : A.units < cLine) : EqAt A s (.ref l) (.none) false := fun prog w E Q h => by
  unfold eqBool
  refine wpAny_holding ?_
  refine wpAny_ite_split (fun hab => absurd (eq_of_beq hab) nofun) (fun _ => ?_)
  exact wpAny_bind (rc_dict_none  hl hu prog w E _ (wpAny_truthy_bool h))
theorem rc_none_dict {l : Addr} {es : Array DictEntry}  (hl : IsDct s.heap l es) (hu : A.units < cLine) : RcAt A s (.none) (.ref l) false := fun prog w E Q h => by
  obtain ⟨⟨cls, dd, data, sl⟩, ho, hc, n, hd⟩ := id hl
  simp only at hc hd
  subst hc hd
  exact rc_eq_decline_or (k := false) rfl ⟨_, ho, rfl⟩ (by decide) F.sub_dict_NoneType F.slot_NoneType_eq F.slot_dict_eq_refl
    (fun _ hq => call_gives F.slot_NoneType_eq rfl F.entry_NoneType_eq (F.args_NoneType_eq_2 _ _) (NoneType___eq___none_ref_0 l) hq)
    (fun _ hq => call_meets F.slot_dict_eq_refl ⟨_, ho, rfl⟩ F.entry_dict_eq (F.args_dict_eq_2 _ _) (dict_eq_none l es n dd sl ) ⟨ho, hq⟩)
    (fun _ hq => wpAny_of_eq (rfl : isSame (.none) (.ref l) = pure false) hq) (.inr hu) h
theorem eq_none_dict {l : Addr} {es : Array DictEntry}  (hl : IsDct s.heap l es) (hu : A.units < cLine) : EqAt A s (.none) (.ref l) false := fun prog w E Q h => by
  unfold eqBool
  refine wpAny_holding ?_
  refine wpAny_ite_split (fun hab => absurd (eq_of_beq hab) nofun) (fun _ => ?_)
  exact wpAny_bind (rc_none_dict  hl hu prog w E _ (wpAny_truthy_bool h))
theorem rc_dict_bool {l : Addr} {es : Array DictEntry} (b : Bool) (hl : IsDct s.heap l es) (hu : A.units < cLine) : RcAt A s (.ref l) (.bool b) false := fun prog w E Q h => by
  obtain ⟨⟨cls, dd, data, sl⟩, ho, hc, n, hd⟩ := id hl
  simp only at hc hd
  subst hc hd
  exact rc_eq_decline_or (k := false) ⟨_, ho, rfl⟩ rfl (by decide) F.sub_bool_dict F.slot_dict_eq F.slot_bool_eq_refl
    (fun _ hq => call_meets F.slot_dict_eq ⟨_, ho, rfl⟩ F.entry_dict_eq (F.args_dict_eq_2 _ _) (dict_eq_bool l es n dd sl b) ⟨ho, hq⟩)
    (fun _ hq => call_meets F.slot_bool_eq_refl rfl F.entry_int_eq (F.args_int_eq_2 _ _) (int_eq_dict_bool b l es n dd sl) ⟨ho, hq⟩)
    (fun _ hq => wpAny_of_eq (rfl : isSame (.ref l) (.bool b) = pure false) hq) (.inr hu) h
theorem eq_dict_bool {l : Addr} {es : Array DictEntry} (b : Bool) (hl : IsDct s.heap l es) (hu : A.units < cLine) : EqAt A s (.ref l) (.bool b) false := fun prog w E Q h => by
  unfold eqBool
  refine wpAny_holding ?_
  refine wpAny_ite_split (fun hab => absurd (eq_of_beq hab) nofun) (fun _ => ?_)
  exact wpAny_bind (rc_dict_bool b hl hu prog w E _ (wpAny_truthy_bool h))
theorem rc_bool_dict {l : Addr} {es : Array DictEntry} (b : Bool) (hl : IsDct s.heap l es) (hu : A.units < cLine) : RcAt A s (.bool b) (.ref l) false := fun prog w E Q h => by
  obtain ⟨⟨cls, dd, data, sl⟩, ho, hc, n, hd⟩ := id hl
  simp only at hc hd
  subst hc hd
  exact rc_eq_decline_or (k := false) rfl ⟨_, ho, rfl⟩ (by decide) F.sub_dict_bool F.slot_bool_eq F.slot_dict_eq_refl
    (fun _ hq => call_meets F.slot_bool_eq rfl F.entry_int_eq (F.args_int_eq_2 _ _) (int_eq_dict_bool b l es n dd sl) ⟨ho, hq⟩)
    (fun _ hq => call_meets F.slot_dict_eq_refl ⟨_, ho, rfl⟩ F.entry_dict_eq (F.args_dict_eq_2 _ _) (dict_eq_bool l es n dd sl b) ⟨ho, hq⟩)
    (fun _ hq => wpAny_of_eq (rfl : isSame (.bool b) (.ref l) = pure false) hq) (.inr hu) h
theorem eq_bool_dict {l : Addr} {es : Array DictEntry} (b : Bool) (hl : IsDct s.heap l es) (hu : A.units < cLine) : EqAt A s (.bool b) (.ref l) false := fun prog w E Q h => by
  unfold eqBool
  refine wpAny_holding ?_
  refine wpAny_ite_split (fun hab => absurd (eq_of_beq hab) nofun) (fun _ => ?_)
  exact wpAny_bind (rc_bool_dict b hl hu prog w E _ (wpAny_truthy_bool h))
theorem rc_dict_int {l : Addr} {es : Array DictEntry} (b : Int) (u : Tok) (hl : IsDct s.heap l es) (hu : A.units < cLine) : RcAt A s (.ref l) (.int b u) false := fun prog w E Q h => by
  obtain ⟨⟨cls, dd, data, sl⟩, ho, hc, n, hd⟩ := id hl
  simp only at hc hd
  subst hc hd
  exact rc_eq_decline_or (k := false) ⟨_, ho, rfl⟩ rfl (by decide) F.sub_int_dict F.slot_dict_eq F.slot_int_eq_refl
    (fun _ hq => call_meets F.slot_dict_eq ⟨_, ho, rfl⟩ F.entry_dict_eq (F.args_dict_eq_2 _ _) (dict_eq_int l es n dd sl b u) ⟨ho, hq⟩)
    (fun _ hq => call_meets F.slot_int_eq_refl rfl F.entry_int_eq (F.args_int_eq_2 _ _) (int_eq_dict_int b u l es n dd sl) ⟨ho, hq⟩)
    (fun _ hq => wpAny_of_eq (rfl : isSame (.ref l) (.int b u) = pure false) hq) (.inr hu) h
theorem eq_dict_int {l : Addr} {es : Array DictEntry} (b : Int) (u : Tok) (hl : IsDct s.heap l es) (hu : A.units < cLine) : EqAt A s (.ref l) (.int b u) false := fun prog w E Q h => by
  unfold eqBool
  refine wpAny_holding ?_
  refine wpAny_ite_split (fun hab => absurd (eq_of_beq hab) nofun) (fun _ => ?_)
  exact wpAny_bind (rc_dict_int b u hl hu prog w E _ (wpAny_truthy_bool h))
theorem rc_int_dict {l : Addr} {es : Array DictEntry} (b : Int) (u : Tok) (hl : IsDct s.heap l es) (hu : A.units < cLine) : RcAt A s (.int b u) (.ref l) false := fun prog w E Q h => by
  obtain ⟨⟨cls, dd, data, sl⟩, ho, hc, n, hd⟩ := id hl
  simp only at hc hd
  subst hc hd
  exact rc_eq_decline_or (k := false) rfl ⟨_, ho, rfl⟩ (by decide) F.sub_dict_int F.slot_int_eq F.slot_dict_eq_refl
    (fun _ hq => call_meets F.slot_int_eq rfl F.entry_int_eq (F.args_int_eq_2 _ _) (int_eq_dict_int b u l es n dd sl) ⟨ho, hq⟩)
    (fun _ hq => call_meets F.slot_dict_eq_refl ⟨_, ho, rfl⟩ F.entry_dict_eq (F.args_dict_eq_2 _ _) (dict_eq_int l es n dd sl b u) ⟨ho, hq⟩)
    (fun _ hq => wpAny_of_eq (rfl : isSame (.int b u) (.ref l) = pure false) hq) (.inr hu) h
theorem eq_int_dict {l : Addr} {es : Array DictEntry} (b : Int) (u : Tok) (hl : IsDct s.heap l es) (hu : A.units < cLine) : EqAt A s (.int b u) (.ref l) false := fun prog w E Q h => by
  unfold eqBool
  refine wpAny_holding ?_
  refine wpAny_ite_split (fun hab => absurd (eq_of_beq hab) nofun) (fun _ => ?_)
  exact wpAny_bind (rc_int_dict b u hl hu prog w E _ (wpAny_truthy_bool h))
theorem rc_dict_str {l : Addr} {es : Array DictEntry} (b : Str) (u : Tok) (hl : IsDct s.heap l es) (hu : A.units < cLine) : RcAt A s (.ref l) (.str b u) false := fun prog w E Q h => by
  obtain ⟨⟨cls, dd, data, sl⟩, ho, hc, n, hd⟩ := id hl
  simp only at hc hd
  subst hc hd
  exact rc_eq_decline_or (k := false) ⟨_, ho, rfl⟩ rfl (by decide) F.sub_str_dict F.slot_dict_eq F.slot_str_eq_refl
    (fun _ hq => call_meets F.slot_dict_eq ⟨_, ho, rfl⟩ F.entry_dict_eq (F.args_dict_eq_2 _ _) (dict_eq_str l es n dd sl b u) ⟨ho, hq⟩)
    (fun _ hq => call_meets F.slot_str_eq_refl rfl F.entry_str_eq (F.args_str_eq_2 _ _) (str_eq_dict b u l es n dd sl) ⟨ho, hq⟩)
    (fun _ hq => wpAny_of_eq (rfl : isSame (.ref l) (.str b u) = pure false) hq) (.inr hu) h
theorem eq_dict_str {l : Addr} {es : Array DictEntry} (b : Str) (u : Tok) (hl : IsDct s.heap l es) (hu : A.units < cLine) : EqAt A s (.ref l) (.str b u) false := fun prog w E Q h => by
  unfold eqBool
  refine wpAny_holding ?_
  refine wpAny_ite_split (fun hab => absurd (eq_of_beq hab) nofun) (fun _ => ?_)
  exact wpAny_bind (rc_dict_str b u hl hu prog w E _ (wpAny_truthy_bool h))
theorem rc_str_dict {l : Addr} {es : Array DictEntry} (b : Str) (u : Tok) (hl : IsDct s.heap l es) (hu : A.units < cLine) : RcAt A s (.str b u) (.ref l) false := fun prog w E Q h => by
  obtain ⟨⟨cls, dd, data, sl⟩, ho, hc, n, hd⟩ := id hl
  simp only at hc hd
  subst hc hd
  exact rc_eq_decline_or (k := false) rfl ⟨_, ho, rfl⟩ (by decide) F.sub_dict_str F.slot_str_eq F.slot_dict_eq_refl
    (fun _ hq => call_meets F.slot_str_eq rfl F.entry_str_eq (F.args_str_eq_2 _ _) (str_eq_dict b u l es n dd sl) ⟨ho, hq⟩)
    (fun _ hq => call_meets F.slot_dict_eq_refl ⟨_, ho, rfl⟩ F.entry_dict_eq (F.args_dict_eq_2 _ _) (dict_eq_str l es n dd sl b u) ⟨ho, hq⟩)
    (fun _ hq => wpAny_of_eq (rfl : isSame (.str b u) (.ref l) = pure false) hq) (.inr hu) h
theorem eq_str_dict {l : Addr} {es : Array DictEntry} (b : Str) (u : Tok) (hl : IsDct s.heap l es) (hu : A.units < cLine) : EqAt A s (.str b u) (.ref l) false := fun prog w E Q h => by
  unfold eqBool
  refine wpAny_holding ?_
  refine wpAny_ite_split (fun hab => absurd (eq_of_beq hab) nofun) (fun _ => ?_)
  exact wpAny_bind (rc_str_dict b u hl hu prog w E _ (wpAny_truthy_bool h))
theorem ne_list_dict {h : Heap} {l b : Addr} {items : Array Value} {es : Array DictEntry} (hl : h.IsList l items) (hb : IsDct h b es) : l ≠ b := fun e => by
  subst e
  obtain ⟨o, ho, hc, _⟩ := hl
  obtain ⟨o2, ho2, hc2, _⟩ := hb
  cases Option.some.inj (ho.symm.trans ho2)
  rw [hc] at hc2
  exact absurd hc2 (by simp)
theorem rc_list_dict {l b : Addr} {items : Array Value} {es : Array DictEntry} (hl : s.heap.IsList l items) (hb : IsDct s.heap b es) (hu : A.units < cLine) : RcAt A s (.ref l) (.ref b) false := fun prog w E Q h => by
  have hne := ne_list_dict hl hb
  obtain ⟨⟨cls, dd2, data, sl2⟩, ho, hc, n2, hd⟩ := id hl
  obtain ⟨⟨cls2, dd, data2, sl⟩, ho2, hc2, n, hd2⟩ := id hb
  simp only at hc hd hc2 hd2
  subst hc hd hc2 hd2
  exact (rc_eq_decline_or (k := false) ⟨_, ho, rfl⟩ ⟨_, ho2, rfl⟩ (by decide) F.sub_dict_list F.slot_list_eq F.slot_dict_eq_refl
    (fun _ hq => call_meets F.slot_list_eq ⟨_, ho, rfl⟩ F.entry_list_eq (F.args_list_eq_2 _ _) (list_eq_dict l b items es n n2 dd dd2 sl sl2) ⟨ho, ho2, hq⟩)
    (fun _ hq => call_meets F.slot_dict_eq_refl ⟨_, ho2, rfl⟩ F.entry_dict_eq (F.args_dict_eq_2 _ _) (dict_eq_list b l items es n n2 dd dd2 sl sl2) ⟨ho2, ho, hq⟩)
    (fun _ hq => wpAny_isSame_ref_other hne ho ho2 (by simp) hq) (.inr hu) h)
theorem rc_dict_list {l b : Addr} {items : Array Value} {es : Array DictEntry} (hl : IsDct s.heap l es) (hb : s.heap.IsList b items) (hu : A.units < cLine) : RcAt A s (.ref l) (.ref b) false := fun prog w E Q h => by
  have hne : l ≠ b := (ne_list_dict hb hl).symm
  obtain ⟨⟨cls, dd, data, sl⟩, ho, hc, n, hd⟩ := id hl
  obtain ⟨⟨cls2, dd2, data2, sl2⟩, ho2, hc2, n2, hd2⟩ := id hb
  simp only at hc hd hc2 hd2
  subst hc hd hc2 hd2
  exact (rc_eq_decline_or (k := false) ⟨_, ho, rfl⟩ ⟨_, ho2, rfl⟩ (by decide) F.sub_list_dict F.slot_dict_eq F.slot_list_eq_refl
    (fun _ hq => call_meets F.slot_dict_eq ⟨_, ho, rfl⟩ F.entry_dict_eq (F.args_dict_eq_2 _ _) (dict_eq_list l b items es n n2 dd dd2 sl sl2) ⟨ho, ho2, hq⟩)
    (fun _ hq => call_meets F.slot_list_eq_refl ⟨_, ho2, rfl⟩ F.entry_list_eq (F.args_list_eq_2 _ _) (list_eq_dict b l items es n n2 dd dd2 sl sl2) ⟨ho2, ho, hq⟩)
    (fun _ hq => wpAny_isSame_ref_other hne ho ho2 (by simp) hq) (.inr hu) h)
theorem ne_tuple_dict {h : Heap} {l b : Addr} {items : Array Value} {es : Array DictEntry} (hl : h.IsTuple l items) (hb : IsDct h b es) : l ≠ b := fun e => by
  subst e
  obtain ⟨o, ho, hc, _⟩ := hl
  obtain ⟨o2, ho2, hc2, _⟩ := hb
  cases Option.some.inj (ho.symm.trans ho2)
  rw [hc] at hc2
  exact absurd hc2 (by simp)
theorem rc_tuple_dict {l b : Addr} {items : Array Value} {es : Array DictEntry} (hl : s.heap.IsTuple l items) (hb : IsDct s.heap b es) (hu : A.units < cLine) : RcAt A s (.ref l) (.ref b) false := fun prog w E Q h => by
  have hne := ne_tuple_dict hl hb
  obtain ⟨⟨cls, dd2, data, sl2⟩, ho, hc, n2, hd⟩ := id hl
  obtain ⟨⟨cls2, dd, data2, sl⟩, ho2, hc2, n, hd2⟩ := id hb
  simp only at hc hd hc2 hd2
  subst hc hd hc2 hd2
  exact (rc_eq_decline_or (k := false) ⟨_, ho, rfl⟩ ⟨_, ho2, rfl⟩ (by decide) F.sub_dict_tuple F.slot_tuple_eq F.slot_dict_eq_refl
    (fun _ hq => call_meets F.slot_tuple_eq ⟨_, ho, rfl⟩ F.entry_tuple_eq (F.args_tuple_eq_2 _ _) (tuple_eq_dict l b items es n n2 dd dd2 sl sl2) ⟨ho, ho2, hq⟩)
    (fun _ hq => call_meets F.slot_dict_eq_refl ⟨_, ho2, rfl⟩ F.entry_dict_eq (F.args_dict_eq_2 _ _) (dict_eq_tuple b l items es n n2 dd dd2 sl sl2) ⟨ho2, ho, hq⟩)
    (fun _ hq => wpAny_isSame_ref_other' hne ho ho2 (by simp) hq) (.inr hu) h)
theorem rc_dict_tuple {l b : Addr} {items : Array Value} {es : Array DictEntry} (hl : IsDct s.heap l es) (hb : s.heap.IsTuple b items) (hu : A.units < cLine) : RcAt A s (.ref l) (.ref b) false := fun prog w E Q h => by
  have hne : l ≠ b := (ne_tuple_dict hb hl).symm
  obtain ⟨⟨cls, dd, data, sl⟩, ho, hc, n, hd⟩ := id hl
  obtain ⟨⟨cls2, dd2, data2, sl2⟩, ho2, hc2, n2, hd2⟩ := id hb
  simp only at hc hd hc2 hd2
  subst hc hd hc2 hd2
  exact (rc_eq_decline_or (k := false) ⟨_, ho, rfl⟩ ⟨_, ho2, rfl⟩ (by decide) F.sub_tuple_dict F.slot_dict_eq F.slot_tuple_eq_refl
    (fun _ hq => call_meets F.slot_dict_eq ⟨_, ho, rfl⟩ F.entry_dict_eq (F.args_dict_eq_2 _ _) (dict_eq_tuple l b items es n n2 dd dd2 sl sl2) ⟨ho, ho2, hq⟩)
    (fun _ hq => call_meets F.slot_tuple_eq_refl ⟨_, ho2, rfl⟩ F.entry_tuple_eq (F.args_tuple_eq_2 _ _) (tuple_eq_dict b l items es n n2 dd dd2 sl sl2) ⟨ho2, ho, hq⟩)
    (fun _ hq => wpAny_isSame_ref_other hne ho ho2 (by simp) hq) (.inr hu) h)
theorem canAny {x y : PyData} (h : x.canLay0 = true ∨ y.canLay0 = true) : True := trivial
theorem reads_same {h : Heap} {d d' : PyData} {v : Value} {as as' : List Addr} (k : d.canLay0 = true ∨ d'.canLay0 = true) (r : Reads h v d as) (r' : Reads h v d' as') : d = d' ∧ d.canLay0 = true := by
  rcases k with k | k
  · exact ⟨Reads.unique d d' v as as' k r r', k⟩
  · have := Reads.unique d' d v as' as k r' r
    subst this
    exact ⟨rfl, k⟩
theorem or_list {xs ys : List PyData} (h : (PyData.list xs).canLay0 = true ∨ (PyData.list ys).canLay0 = true) : PyData.canLayAll0 xs = true ∨ PyData.canLayAll0 ys = true := by simpa only [PyData.canLay0] using h
theorem or_tuple {xs ys : List PyData} (h : (PyData.tuple xs).canLay0 = true ∨ (PyData.tuple ys).canLay0 = true) : PyData.canLayAll0 xs = true ∨ PyData.canLayAll0 ys = true := by simpa only [PyData.canLay0] using h
theorem or_cons {x y : PyData} {xs ys : List PyData} (h : PyData.canLayAll0 (x :: xs) = true ∨ PyData.canLayAll0 (y :: ys) = true) : (x.canLay0 = true ∨ y.canLay0 = true) ∧ (PyData.canLayAll0 xs = true ∨ PyData.canLayAll0 ys = true) := by
  simp only [PyData.canLayAll0, Bool.and_eq_true] at h
  rcases h with h | h
  · exact ⟨.inl h.1, .inl h.2⟩
  · exact ⟨.inr h.1, .inr h.2⟩
mutual
theorem eqAny : ∀ (da db : PyData) (A : Around) (s : Shared) (a b : Value) (as bs : List Addr), Reads s.heap a da as → Reads s.heap b db bs → (da.canLay0 = true ∨ db.canLay0 = true) →
    A.units + min da.depth db.depth < cLine → EqAt A s a b (PyData.eqv da db)
  | .none, _, A, s, _, _, _, _, ra, rb, _, hu => by
    cases ra
    cases rb with
    | none => exact EqAt.same _
    | bool y => exact EqAt.none_bool y
    | int y u => exact EqAt.none_int y u
    | str y u => exact EqAt.none_str y u
    | list k1 k2 k3 k4 => exact EqAt.none_list ⟨_, k1, k2, _, k3⟩ (room_here hu)
    | tuple k1 k2 k3 k4 => exact EqAt.none_tuple ⟨_, k1, k2, _, k3⟩ (room_here hu)
    | dict k1 k2 k3 _ _ => exact eq_none_dict ⟨_, k1, k2, _, k3⟩ (room_here hu)
  | .bool x, _, A, s, _, _, _, _, ra, rb, _, hu => by
    cases ra
    cases rb with
    | none => exact EqAt.bool_none x
    | bool y => exact EqAt.bool_bool x y
    | int y u => exact EqAt.bool_int x y u
    | str y u => exact EqAt.bool_str x y u
    | list k1 k2 k3 k4 => exact EqAt.bool_list x ⟨_, k1, k2, _, k3⟩ (room_here hu)
    | tuple k1 k2 k3 k4 => exact EqAt.bool_tuple x ⟨_, k1, k2, _, k3⟩ (room_here hu)
    | dict k1 k2 k3 _ _ => exact eq_bool_dict x ⟨_, k1, k2, _, k3⟩ (room_here hu)
  | .int x, _, A, s, _, _, _, _, ra, rb, _, hu => by
    cases ra with
    | int _ t =>
      cases rb with
      | none => exact EqAt.int_none x t
      | bool y => exact EqAt.int_bool x t y
      | int y u => exact EqAt.int_int x t y u
      | str y u => exact EqAt.int_str x t y u
      | list k1 k2 k3 k4 => exact EqAt.int_list x t ⟨_, k1, k2, _, k3⟩ (room_here hu)
      | tuple k1 k2 k3 k4 => exact EqAt.int_tuple x t ⟨_, k1, k2, _, k3⟩ (room_here hu)
      | dict k1 k2 k3 _ _ => exact eq_int_dict x t ⟨_, k1, k2, _, k3⟩ (room_here hu)
  | .str x, _, A, s, _, _, _, _, ra, rb, _, hu => by
    cases ra with
    | str _ t =>
      cases rb with
      | none => exact EqAt.str_none x t
      | bool y => exact EqAt.str_bool x t y
      | int y u => exact EqAt.str_int x t y u
      | str y u => exact EqAt.str_str x t y u
      | list k1 k2 k3 k4 => exact EqAt.str_list x t ⟨_, k1, k2, _, k3⟩ (room_here hu)
      | tuple k1 k2 k3 k4 => exact EqAt.str_tuple x t ⟨_, k1, k2, _, k3⟩ (room_here hu)
      | dict k1 k2 k3 _ _ => exact eq_str_dict x t ⟨_, k1, k2, _, k3⟩ (room_here hu)
  | .list xs, db, A, s, _, _, _, _, ra, rb, hc, hu => by
    cases ra with
    | @list l o vs n _ as₁ h1 h2 h3 h4 =>
      have hl : s.heap.IsList l vs := ⟨_, h1, h2, _, h3⟩
      cases rb with
      | none => exact EqAt.list_none hl (room_here hu)
      | bool y => exact EqAt.list_bool y hl (room_here hu)
      | int y u => exact EqAt.list_int y u hl (room_here hu)
      | str y u => exact EqAt.list_str y u hl (room_here hu)
      | tuple k1 k2 k3 k4 => exact EqAt.list_tuple hl ⟨_, k1, k2, _, k3⟩ (room_here hu)
      | dict k1 k2 k3 _ _ => exact .of_refs (ne_list_dict hl ⟨_, k1, k2, _, k3⟩) (rc_list_dict hl ⟨_, k1, k2, _, k3⟩ (room_here hu))
      | @list l' o' vs' n' ys bs₁ k1 k2 k3 k4 =>
        have hl' : s.heap.IsList l' vs' := ⟨_, k1, k2, _, k3⟩
        have n1 : vs.size = xs.length := by simpa using ReadsAll.length _ _ _ h4
        have n2 : vs'.size = ys.length := by simpa using ReadsAll.length _ _ _ k4
        show EqAt A s (.ref l) (.ref l') (PyData.eqvAll xs ys)
        by_cases hll : l = l'
        · subst hll
          obtain ⟨e, ha⟩ := reads_same hc (.list h1 h2 h3 h4) (.list k1 k2 k3 k4)
          injection e with e
          subst e
          rw [eqvAll_refl xs ha]
          exact EqAt.same _
        · by_cases hsz : vs.size = vs'.size
          · rw [← eqvAll_same_length (by omega : xs.length = ys.length), ← n1]
            refine EqAt.of_refs hll (RcAt.lists hl hl' hsz (room_here hu) fun j j1 j2 => ?_)
            have := eqAnyAll xs ys A.in1 s vs.toList vs'.toList _ _ h4 k4 (or_list hc) (room_in hu) j (by simpa using j1) (by simpa using j2)
            simpa using this
          · rw [eqvAll_other_length (by omega : xs.length ≠ ys.length)]
            exact EqAt.of_refs hll (RcAt.lists_lengths hl hl' (by simpa using hsz) (room_here hu))
  | .tuple xs, db, A, s, _, _, _, _, ra, rb, hc, hu => by
    cases ra with
    | @tuple l o vs n _ as₁ h1 h2 h3 h4 =>
      have hl : s.heap.IsTuple l vs := ⟨_, h1, h2, _, h3⟩
      cases rb with
      | none => exact EqAt.tuple_none hl (room_here hu)
      | bool y => exact EqAt.tuple_bool y hl (room_here hu)
      | int y u => exact EqAt.tuple_int y u hl (room_here hu)
      | str y u => exact EqAt.tuple_str y u hl (room_here hu)
      | list k1 k2 k3 k4 => exact EqAt.tuple_list hl ⟨_, k1, k2, _, k3⟩ (room_here hu)
      | dict k1 k2 k3 _ _ => exact .of_refs (ne_tuple_dict hl ⟨_, k1, k2, _, k3⟩) (rc_tuple_dict hl ⟨_, k1, k2, _, k3⟩ (room_here hu))
      | @tuple l' o' vs' n' ys bs₁ k1 k2 k3 k4 =>
        have hl' : s.heap.IsTuple l' vs' := ⟨_, k1, k2, _, k3⟩
        have n1 : vs.size = xs.length := by simpa using ReadsAll.length _ _ _ h4
        have n2 : vs'.size = ys.length := by simpa using ReadsAll.length _ _ _ k4
        show EqAt A s (.ref l) (.ref l') (PyData.eqvAll xs ys)
        by_cases hll : l = l'
        · subst hll
          obtain ⟨e, ha⟩ := reads_same hc (.tuple h1 h2 h3 h4) (.tuple k1 k2 k3 k4)
          injection e with e
          subst e
          rw [eqvAll_refl xs ha]
          exact EqAt.same _
        · rw [← eqvAll_eq xs ys, ← n1, ← n2]
          refine EqAt.of_refs hll (RcAt.tuples hl hl' (room_here hu) fun j j1 j2 => ?_)
          have := eqAnyAll xs ys A.in1 s vs.toList vs'.toList _ _ h4 k4 (or_tuple hc) (room_in hu) j (by simpa using j1) (by simpa using j2)
          simpa using this
  | .dict xs, db, A, s, _, _, _, _, ra, rb, hc, hu => by
    cases ra with
    | @dict l o es n _ as₁ bs₁ h1 h2 h3 h4 h5 =>
      have hl : IsDct s.heap l es := ⟨_, h1, h2, _, h3⟩
      cases rb with
      | none => exact eq_dict_none hl (room_here hu)
      | bool y => exact eq_dict_bool y hl (room_here hu)
      | int y u => exact eq_dict_int y u hl (room_here hu)
      | str y u => exact eq_dict_str y u hl (room_here hu)
      | list k1 k2 k3 k4 => exact .of_refs (ne_list_dict ⟨_, k1, k2, _, k3⟩ hl).symm (rc_dict_list hl ⟨_, k1, k2, _, k3⟩ (room_here hu))
      | tuple k1 k2 k3 k4 => exact .of_refs (ne_tuple_dict ⟨_, k1, k2, _, k3⟩ hl).symm (rc_dict_tuple hl ⟨_, k1, k2, _, k3⟩ (room_here hu))
      | dict k1 k2 k3 _ _ => simp [PyData.canLay0] at hc
theorem eqAnyAll : ∀ (xs ys : List PyData) (A : Around) (s : Shared) (vs ws : List Value) (as bs : List Addr), ReadsAll s.heap vs xs as → ReadsAll s.heap ws ys bs → (PyData.canLayAll0 xs = true ∨ PyData.canLayAll0 ys = true) →
    A.units + min (PyData.depthAll xs) (PyData.depthAll ys) < cLine → ∀ j (h1 : j < vs.length) (h2 : j < ws.length), EqAt A s vs[j] ws[j] (pairEq xs ys j)
  | [], _, _, _, _, _, _, _, ra, _, _, _, j, h1, _ => by cases ra; exact absurd h1 (Nat.not_lt_zero _)
  | _ :: _, [], _, _, _, _, _, _, _, rb, _, _, j, _, h2 => by cases rb; exact absurd h2 (Nat.not_lt_zero _)
  | x :: xs, y :: ys, A, s, _, _, _, _, ra, rb, hc, hu, j, h1, h2 => by
    obtain ⟨hc1, hc2⟩ := or_cons hc
    cases ra with
    | cons r rs =>
      cases rb with
      | cons r' rs' =>
        cases j with
        | zero => exact eqAny x y A s _ _ _ _ r r' hc1 (room_head hu)
        | succ j => exact eqAnyAll xs ys A s _ _ _ _ rs rs' hc2 (room_tail hu) j (Nat.lt_of_succ_lt_succ h1) (Nat.lt_of_succ_lt_succ h2)
end
theorem rcAny {da db : PyData} {A : Around} {s : Shared} {a b : Value} {as bs : List Addr} (ra : Reads s.heap a da as) (rb : Reads s.heap b db bs) (hc : da.canLay0 = true ∨ db.canLay0 = true)
    (hu : A.units + min da.depth db.depth < cLine) : RcAt A s a b (PyData.eqv da db) := by
  cases ra with
  | none =>
    cases rb with
    | none => exact RcAt.none_none
    | bool y => exact RcAt.none_bool y
    | int y u => exact RcAt.none_int y u
    | str y u => exact RcAt.none_str y u
    | list k1 k2 k3 k4 => exact RcAt.none_list ⟨_, k1, k2, _, k3⟩ (room_here hu)
    | tuple k1 k2 k3 k4 => exact RcAt.none_tuple ⟨_, k1, k2, _, k3⟩ (room_here hu)
    | dict k1 k2 k3 _ _ => exact rc_none_dict ⟨_, k1, k2, _, k3⟩ (room_here hu)
  | bool x =>
    cases rb with
    | none => exact RcAt.bool_none x
    | bool y => exact RcAt.bool_bool x y
    | int y u => exact RcAt.bool_int x y u
    | str y u => exact RcAt.bool_str x y u
    | list k1 k2 k3 k4 => exact RcAt.bool_list x ⟨_, k1, k2, _, k3⟩ (room_here hu)
    | tuple k1 k2 k3 k4 => exact RcAt.bool_tuple x ⟨_, k1, k2, _, k3⟩ (room_here hu)
    | dict k1 k2 k3 _ _ => exact rc_bool_dict x ⟨_, k1, k2, _, k3⟩ (room_here hu)
  | int x t =>
    cases rb with
    | none => exact RcAt.int_none x t
    | bool y => exact RcAt.int_bool x t y
    | int y u => exact RcAt.int_int x t y u
    | str y u => exact RcAt.int_str x t y u
    | list k1 k2 k3 k4 => exact RcAt.int_list x t ⟨_, k1, k2, _, k3⟩ (room_here hu)
    | tuple k1 k2 k3 k4 => exact RcAt.int_tuple x t ⟨_, k1, k2, _, k3⟩ (room_here hu)
    | dict k1 k2 k3 _ _ => exact rc_int_dict x t ⟨_, k1, k2, _, k3⟩ (room_here hu)
  | str x t =>
    cases rb with
    | none => exact RcAt.str_none x t
    | bool y => exact RcAt.str_bool x t y
    | int y u => exact RcAt.str_int x t y u
    | str y u => exact RcAt.str_str x t y u
    | list k1 k2 k3 k4 => exact RcAt.str_list x t ⟨_, k1, k2, _, k3⟩ (room_here hu)
    | tuple k1 k2 k3 k4 => exact RcAt.str_tuple x t ⟨_, k1, k2, _, k3⟩ (room_here hu)
    | dict k1 k2 k3 _ _ => exact rc_str_dict x t ⟨_, k1, k2, _, k3⟩ (room_here hu)
  | @list l o vs n xs as₁ h1 h2 h3 h4 =>
    have hl : s.heap.IsList l vs := ⟨_, h1, h2, _, h3⟩
    cases rb with
    | none => exact RcAt.list_none hl (room_here hu)
    | bool y => exact RcAt.list_bool y hl (room_here hu)
    | int y u => exact RcAt.list_int y u hl (room_here hu)
    | str y u => exact RcAt.list_str y u hl (room_here hu)
    | tuple k1 k2 k3 k4 => exact RcAt.list_tuple hl ⟨_, k1, k2, _, k3⟩ (room_here hu)
    | dict k1 k2 k3 _ _ => exact rc_list_dict hl ⟨_, k1, k2, _, k3⟩ (room_here hu)
    | @list l' o' vs' n' ys bs₁ k1 k2 k3 k4 =>
      have hl' : s.heap.IsList l' vs' := ⟨_, k1, k2, _, k3⟩
      have n1 : vs.size = xs.length := by simpa using ReadsAll.length _ _ _ h4
      have n2 : vs'.size = ys.length := by simpa using ReadsAll.length _ _ _ k4
      have he : ∀ j (j1 : j < vs.size) (j2 : j < vs'.size), EqAt A.in1 s vs[j] vs'[j] (pairEq xs ys j) := fun j j1 j2 => by
        have := eqAnyAll xs ys A.in1 s vs.toList vs'.toList _ _ h4 k4 (or_list hc) (room_in hu) j (by simpa using j1) (by simpa using j2)
        simpa using this
      show RcAt A s (.ref l) (.ref l') (PyData.eqvAll xs ys)
      by_cases hsz : vs.size = vs'.size
      · rw [← eqvAll_same_length (by omega : xs.length = ys.length), ← n1]
        exact RcAt.lists hl hl' hsz (room_here hu) he
      · rw [eqvAll_other_length (by omega : xs.length ≠ ys.length)]
        exact RcAt.lists_lengths hl hl' (by simpa using hsz) (room_here hu)
  | @tuple l o vs n xs as₁ h1 h2 h3 h4 =>
    have hl : s.heap.IsTuple l vs := ⟨_, h1, h2, _, h3⟩
    cases rb with
    | none => exact RcAt.tuple_none hl (room_here hu)
    | bool y => exact RcAt.tuple_bool y hl (room_here hu)
    | int y u => exact RcAt.tuple_int y u hl (room_here hu)
    | str y u => exact RcAt.tuple_str y u hl (room_here hu)
    | list k1 k2 k3 k4 => exact RcAt.tuple_list hl ⟨_, k1, k2, _, k3⟩ (room_here hu)
    | dict k1 k2 k3 _ _ => exact rc_tuple_dict hl ⟨_, k1, k2, _, k3⟩ (room_here hu)
    | @tuple l' o' vs' n' ys bs₁ k1 k2 k3 k4 =>
      have hl' : s.heap.IsTuple l' vs' := ⟨_, k1, k2, _, k3⟩
      have n1 : vs.size = xs.length := by simpa using ReadsAll.length _ _ _ h4
      have n2 : vs'.size = ys.length := by simpa using ReadsAll.length _ _ _ k4
      have he : ∀ j (j1 : j < vs.size) (j2 : j < vs'.size), EqAt A.in1 s vs[j] vs'[j] (pairEq xs ys j) := fun j j1 j2 => by
        have := eqAnyAll xs ys A.in1 s vs.toList vs'.toList _ _ h4 k4 (or_tuple hc) (room_in hu) j (by simpa using j1) (by simpa using j2)
        simpa using this
      show RcAt A s (.ref l) (.ref l') (PyData.eqvAll xs ys)
      rw [← eqvAll_eq xs ys, ← n1, ← n2]
      exact RcAt.tuples hl hl' (room_here hu) he
  | @dict l o es n xs as₁ bs₁ h1 h2 h3 h4 h5 =>
    have hl : IsDct s.heap l es := ⟨_, h1, h2, _, h3⟩
    cases rb with
    | none => exact rc_dict_none hl (room_here hu)
    | bool y => exact rc_dict_bool y hl (room_here hu)
    | int y u => exact rc_dict_int y u hl (room_here hu)
    | str y u => exact rc_dict_str y u hl (room_here hu)
    | list k1 k2 k3 k4 => exact rc_dict_list hl ⟨_, k1, k2, _, k3⟩ (room_here hu)
    | tuple k1 k2 k3 k4 => exact rc_dict_tuple hl ⟨_, k1, k2, _, k3⟩ (room_here hu)
    | dict k1 k2 k3 _ _ => simp [PyData.canLay0] at hc
end
section
variable {B : Bs} {X : Cx} {pins : List (Addr × Obj)} {σ : L2.St} {H F : Hp} {s : Shared}
open PySem.Spec L2
theorem repB_reads2 (I : Inv X pins σ H s) (e : Same F H) {d : D} {v : V} {u : Value} {W : WT} (p : rp 64 d = true) (h : RepB W X.kn F H v d) (r : RelV v u) : ∃ as, Reads s.heap u (toPy d) as := by
  rcases h with h | ⟨a, ds, vs, rfl, rfl, _, h, rs⟩ | ⟨a, ds, vs, rfl, rfl, _, h, rs⟩
  · obtain ⟨as, q, _⟩ := rep_reads I e 64 d v u p h r
    exact ⟨as, q⟩
  · cases r
    obtain ⟨its, rv, ⟨o, m, ho, hc, _, hd⟩, _⟩ := I.list (SqL.of h)
    obtain ⟨as, hr, sf⟩ := reps_reads I e 63 ds _ its (by simpa only [rp] using p) rs rv
    exact ⟨_, by simp only [toPy]; exact .list ho hc hd hr⟩
  · cases r
    obtain ⟨_, hS, vs, kv, o, es, ep, ho, hx, hd, _, hp, _⟩ := I.hok _ _ h
    obtain ⟨as, bs, h1, h2, s1, s2⟩ := repk_reads I e 63 ds _ vs es.toList (by simpa only [rp] using p) rs kv hp
    exact ⟨_, by simp only [toPy]; exact .dict ho hx.1 hd h1 h2⟩
/-- == of any two values of which one is without dicts -/
def eqA : D → D → (D → Prop) → Prop
  | .str a, .str b, Q => Q (.bl (decide (a = b)))
  | x, y, Q => rp 64 x = true ∧ rp 64 y = true ∧ (pl 64 x = true ∨ pl 64 y = true) ∧ Q (.bl (eqb x y))
theorem o_eqA (hu : X.A.units + 65 < cLine) : OpR X (compareOp .Eq) (LO2 B X.kn eqA) := fun pins s σ H x y v u Q I rx ry ⟨F, a, b, Qd, e, dk, r1, r2, q, k⟩ => by
  unfold eqA at q
  split at q
  · exact o_eq (B := B) (by omega) pins s σ H x y v u Q I rx ry ⟨F, _, _, Qd, e, dk, r1, r2, q, k⟩
  · obtain ⟨q1, q2, q3, q4⟩ := q
    obtain ⟨as, h1⟩ := repB_reads2 I e q1 r1 rx
    obtain ⟨bs, h2⟩ := repB_reads2 I e q2 r2 ry
    have d1 := rp_depth 64 _ q1
    have d2 := rp_depth 64 _ q2
    refine rcAny h1 h2 ?_ (by omega) _ _ _ _ ⟨.bl _, H, I, rfl, k.here e dk q4 (.bl _)⟩
    rcases q3 with q3 | q3
    · exact .inl (pl_shape 64 _ q3).1
    · exact .inr (pl_shape 64 _ q3).1
end
end ND

/-! ND38: a text tells its value, if the value is made of ints and tuples -/
namespace ND
open PySem PySem.Spec L2
open PyProof.Rows (cps_toList_append signs_ofString int_text_free')
abbrev cs (d : PyData) : List Nat := d.shown.cps.toList
mutual
/-- ints and tuples alone -/
def nest : PyData → Bool
  | .int _ => true
  | .tuple xs => nests xs
  | _ => false
def nests : List PyData → Bool
  | [] => true
  | x :: xs => nest x && nests xs
end
theorem str_inj {x y : Str} (h : x.cps.toList = y.cps.toList) : x = y := by
  cases x
  cases y
  simp only at h
  rw [Array.toList_inj.mp h]
theorem map_inj {xs ys : List Char} (h : xs.map Char.toNat = ys.map Char.toNat) : xs = ys := by
  induction xs generalizing ys with
  | nil => cases ys with
    | nil => rfl
    | cons _ _ => simp at h
  | cons x xs ih => cases ys with
    | nil => simp at h
    | cons y ys =>
      simp only [List.map_cons, List.cons.injEq] at h
      rw [ih h.2, Char.toNat_inj.mp h.1]
theorem int_inj {i j : Int} (h : cs (.int i) = cs (.int j)) : i = j := by
  have h' : ((toString i : String) : Str).cps.toList = ((toString j : String) : Str).cps.toList := h
  rw [signs_ofString, signs_ofString] at h'
  have := map_inj h'
  exact Int.repr_inj.mp (String.toList_inj.mp this)
def isDg (c : Nat) : Bool := c == 45 || (decide (48 ≤ c) && decide (c ≤ 57))
theorem int_dg (i : Int) : ∀ c ∈ cs (.int i), isDg c = true := fun c m => by
  cases h : isDg c with
  | true => rfl
  | false =>
    simp [isDg] at h
    exact absurd m (int_text_free' c ⟨h.1, by omega⟩ i)
theorem int_ne (i : Int) : cs (.int i) ≠ [] := fun e => by
  have h : ((toString i : String) : Str).cps.toList = [] := e
  rw [signs_ofString, List.map_eq_nil_iff] at h
  have h2 : i.repr.toList = [] := h
  rw [Int.repr_eq_if] at h2
  split at h2
  · rw [Nat.toList_repr] at h2
    have := PyProof.Rows.tDigits_len_ge 10 i.toNat
    rw [h2] at this
    simp at this
  · rw [String.toList_append] at h2
    simp at h2
/-- what may stand behind a value -/
def Stop (r : List Nat) : Prop := r = [] ∨ ∃ c t, r = c :: t ∧ (c = 44 ∨ c = 41)
theorem stop_take {r : List Nat} (h : Stop r) : r.takeWhile isDg = [] := by
  rcases h with rfl | ⟨c, t, rfl, rfl | rfl⟩ <;> rfl
theorem take_dg {xs r : List Nat} (h : ∀ c ∈ xs, isDg c = true) (s : Stop r) : (xs ++ r).takeWhile isDg = xs := by
  induction xs with
  | nil => exact stop_take s
  | cons x xs ih =>
    rw [List.cons_append, List.takeWhile_cons, if_pos (h x List.mem_cons_self), ih fun c m => h c (List.mem_cons_of_mem _ m)]
theorem sh_ap (a b : Str) : (a ++ b).cps.toList = a.cps.toList ++ b.cps.toList := cps_toList_append a b
theorem from_pre : ∀ (ts : List Str) (k : Nat) (acc : Str), ∃ r, (textFrom k acc ts).cps.toList = acc.cps.toList ++ r
  | [], _, acc => ⟨[], by simp [textFrom]⟩
  | t :: ts, k, acc => by
    obtain ⟨r, e⟩ := from_pre ts (k + 1) (acc ++ (if k > 0 then ", " else "" : String) ++ t)
    refine ⟨(((if k > 0 then ", " else "" : String) : Str).cps.toList ++ t.cps.toList) ++ r, ?_⟩
    rw [textFrom, e, sh_ap, sh_ap]
    simp only [List.append_assoc]
/-- how the text of a value begins -/
def headOk : PyData → Nat → Prop
  | .none, c => c = 78
  | .bool _, c => c = 84 ∨ c = 70
  | .int _, c => isDg c = true
  | .str _, c => c = 34 ∨ c = 39
  | .list _, c => c = 91
  | .tuple _, c => c = 40
  | .dict _, c => c = 123
theorem quote_two (x : Str) : reprQuote x = 34 ∨ reprQuote x = 39 := by
  unfold reprQuote
  split
  · simp
  · simp
theorem fold_pre (q : Nat) : ∀ (l : List Nat) (acc : Array Nat), ∃ r, (l.foldl (fun out c => out ++ (PySem.Builtin.Str.reprChar q c).toArray) acc).toList = acc.toList ++ r
  | [], acc => ⟨[], by simp⟩
  | c :: l, acc => by
    obtain ⟨r, e⟩ := fold_pre q l (acc ++ (PySem.Builtin.Str.reprChar q c).toArray)
    exact ⟨PySem.Builtin.Str.reprChar q c ++ r, by rw [List.foldl_cons, e]; simp⟩
theorem head_of (x : PyData) : ∃ c t, cs x = c :: t ∧ headOk x c := by
  cases x with
  | none => exact ⟨78, _, rfl, rfl⟩
  | bool b => cases b; exact ⟨70, _, rfl, .inr rfl⟩; exact ⟨84, _, rfl, .inl rfl⟩
  | int i =>
    cases h : cs (.int i) with
    | nil => exact absurd h (int_ne i)
    | cons c t => exact ⟨c, t, rfl, int_dg i c (by rw [h]; exact List.mem_cons_self)⟩
  | str x =>
    obtain ⟨r, e⟩ := fold_pre (reprQuote x) x.cps.toList #[reprQuote x]
    refine ⟨reprQuote x, r ++ [reprQuote x], ?_, quote_two x⟩
    show (reprText x).cps.toList = _
    unfold reprText
    rw [← Array.foldl_toList] at *
    simp only [Array.toList_push, e]
    simp
  | list xs =>
    obtain ⟨r, e⟩ := from_pre (PyData.shownAll xs) 0 "["
    refine ⟨91, r ++ [93], ?_, rfl⟩
    show (listText (PyData.shownAll xs)).cps.toList = _
    unfold listText
    rw [sh_ap, e]
    rfl
  | tuple xs =>
    refine ⟨40, (Str.join ", " (PyData.shownAll xs)).cps.toList ++ ((if (PyData.shownAll xs).length == 1 then ",)" else ")" : String) : Str).cps.toList, ?_, rfl⟩
    show (tupleText (PyData.shownAll xs)).cps.toList = _
    unfold tupleText
    rw [sh_ap, sh_ap]
    rfl
  | dict kvs =>
    refine ⟨123, (Str.join ", " (PyData.shownKv kvs)).cps.toList ++ (("}" : String) : Str).cps.toList, ?_, rfl⟩
    show (dictText (PyData.shownKv kvs)).cps.toList = _
    unfold dictText
    rw [sh_ap, sh_ap]
    rfl
def restL : List PyData → List Nat
  | [] => [41]
  | x :: xs => 44 :: 32 :: (cs x ++ restL xs)
theorem join_rest : ∀ (x : PyData) (xs : List PyData), (Str.join ", " (PyData.shownAll (x :: xs))).cps.toList ++ [41] = cs x ++ restL xs
  | x, [] => rfl
  | x, y :: ys => by
    have ih := join_rest y ys
    show (x.shown ++ ", " ++ Str.join ", " (PyData.shownAll (y :: ys))).cps.toList ++ [41] = _
    rw [sh_ap, sh_ap, List.append_assoc, ih, List.append_assoc]
    rfl
theorem cs_t0 : cs (.tuple []) = [40, 41] := rfl
theorem cs_t1 (x : PyData) : cs (.tuple [x]) = 40 :: (cs x ++ [44, 41]) := by
  show (tupleText [x.shown]).cps.toList = _
  unfold tupleText
  rw [sh_ap, sh_ap]
  rfl
theorem cs_t2 (x y : PyData) (xs : List PyData) : cs (.tuple (x :: y :: xs)) = 40 :: (cs x ++ restL (y :: xs)) := by
  rw [← join_rest x (y :: xs)]
  show (tupleText (PyData.shownAll (x :: y :: xs))).cps.toList = _
  unfold tupleText
  rw [sh_ap, sh_ap, if_neg (by simp [PyData.shownAll])]
  rfl
theorem stop_rest (xs : List PyData) (r : List Nat) : Stop (restL xs ++ r) := by
  cases xs with
  | nil => exact .inr ⟨41, _, rfl, .inr rfl⟩
  | cons x xs => exact .inr ⟨44, _, rfl, .inl rfl⟩
theorem head_no {x : PyData} {c : Nat} (h : headOk x c) : c ≠ 41 ∧ c ≠ 44 := by
  cases x <;> simp [headOk, isDg] at h <;> omega
mutual
theorem told : ∀ (y x : PyData) (r r' : List Nat), nest y = true → Stop r → Stop r' → cs x ++ r = cs y ++ r' → x = y ∧ r = r'
  | .int j, x, r, r', _, s, s', e => by
    obtain ⟨c, t, ex, hx⟩ := head_of x
    obtain ⟨c', t', ey, hy⟩ := head_of (.int j)
    have e0 := e
    rw [ex, ey, List.cons_append, List.cons_append] at e0
    injection e0 with ec _
    subst ec
    cases x with
    | int i =>
      have h1 : (cs (.int i) ++ r).takeWhile isDg = (cs (.int j) ++ r').takeWhile isDg := by rw [e]
      rw [take_dg (int_dg i) s, take_dg (int_dg j) s'] at h1
      rw [h1] at e
      exact ⟨by rw [int_inj h1], List.append_cancel_left e⟩
    | none => simp [headOk, isDg] at hx hy; omega
    | bool b => simp [headOk, isDg] at hx hy; omega
    | str b => simp [headOk, isDg] at hx hy; omega
    | list b => simp [headOk, isDg] at hx hy; omega
    | tuple b => simp [headOk, isDg] at hx hy; omega
    | dict b => simp [headOk, isDg] at hx hy; omega
  | .tuple ys, x, r, r', n, s, s', e => by
    obtain ⟨c, t, ex, hx⟩ := head_of x
    obtain ⟨c', t', ey, hy⟩ := head_of (.tuple ys)
    have e0 := e
    rw [ex, ey, List.cons_append, List.cons_append] at e0
    injection e0 with ec _
    subst ec
    have hy' : c = 40 := hy
    subst hy'
    simp only [nest] at n
    cases x with
    | none => simp [headOk, isDg] at hx
    | bool b => simp [headOk, isDg] at hx
    | str b => simp [headOk, isDg] at hx
    | list b => simp [headOk, isDg] at hx
    | int b => simp [headOk, isDg] at hx
    | dict b => simp [headOk, isDg] at hx
    | tuple xs =>
      have key := toldT ys xs r r' n s s' e
      exact ⟨by rw [key.1], key.2⟩
  | .none, _, _, _, n, _, _, _ => by simp [nest] at n
  | .bool _, _, _, _, n, _, _, _ => by simp [nest] at n
  | .str _, _, _, _, n, _, _, _ => by simp [nest] at n
  | .list _, _, _, _, n, _, _, _ => by simp [nest] at n
  | .dict _, _, _, _, n, _, _, _ => by simp [nest] at n
theorem toldT : ∀ (ys xs : List PyData) (r r' : List Nat), nests ys = true → Stop r → Stop r' → cs (.tuple xs) ++ r = cs (.tuple ys) ++ r' → xs = ys ∧ r = r'
  | [], xs, r, r', _, s, s', e => by
    rw [cs_t0] at e
    match xs with
    | [] =>
      rw [cs_t0] at e
      exact ⟨rfl, List.append_cancel_left e⟩
    | [x] =>
      rw [cs_t1] at e
      obtain ⟨c, t, ex, hx⟩ := head_of x
      rw [ex] at e
      simp at e
      exact absurd e.1 (head_no hx).1
    | x :: x' :: xs =>
      rw [cs_t2] at e
      obtain ⟨c, t, ex, hx⟩ := head_of x
      rw [ex] at e
      simp at e
      exact absurd e.1 (head_no hx).1
  | [y], xs, r, r', n, s, s', e => by
    simp only [nests, Bool.and_true] at n
    rw [cs_t1] at e
    match xs with
    | [] =>
      rw [cs_t0] at e
      obtain ⟨c, t, ex, hx⟩ := head_of y
      rw [ex] at e
      simp at e
      exact absurd e.1.symm (head_no hx).1
    | [x] =>
      rw [cs_t1] at e
      simp only [List.cons_append, List.append_assoc, List.cons.injEq, true_and, List.nil_append] at e
      obtain ⟨h1, h2⟩ := told y x _ _ n (.inr ⟨44, _, rfl, .inl rfl⟩) (.inr ⟨44, _, rfl, .inl rfl⟩) e
      injection h2 with _ h2
      injection h2 with _ h2
      exact ⟨by rw [h1], h2⟩
    | x :: x' :: xs =>
      rw [cs_t2] at e
      simp only [List.cons_append, List.append_assoc, List.cons.injEq, true_and, List.nil_append] at e
      obtain ⟨h1, h2⟩ := told y x _ _ n (stop_rest _ _) (.inr ⟨44, _, rfl, .inl rfl⟩) e
      simp [restL] at h2
  | y :: y' :: ys, xs, r, r', n, s, s', e => by
    have n' : nest y = true ∧ nests (y' :: ys) = true := by
      rw [nests, Bool.and_eq_true] at n
      exact n
    rw [cs_t2] at e
    match xs with
    | [] =>
      rw [cs_t0] at e
      obtain ⟨c, t, ex, hx⟩ := head_of y
      rw [ex] at e
      simp at e
      exact absurd e.1.symm (head_no hx).1
    | [x] =>
      rw [cs_t1] at e
      simp only [List.cons_append, List.append_assoc, List.cons.injEq, true_and, List.nil_append] at e
      obtain ⟨h1, h2⟩ := told y x _ _ n'.1 (.inr ⟨44, _, rfl, .inl rfl⟩) (stop_rest _ _) e
      simp [restL] at h2
    | x :: x' :: xs =>
      rw [cs_t2] at e
      simp only [List.cons_append, List.append_assoc, List.cons.injEq, true_and] at e
      obtain ⟨h1, h2⟩ := told y x _ _ n'.1 (stop_rest _ _) (stop_rest _ _) e
      obtain ⟨h3, h4⟩ := toldR (y' :: ys) (x' :: xs) r r' n'.2 s s' h2
      exact ⟨by rw [h1, h3], h4⟩
theorem toldR : ∀ (ys xs : List PyData) (r r' : List Nat), nests ys = true → Stop r → Stop r' → restL xs ++ r = restL ys ++ r' → xs = ys ∧ r = r'
  | [], xs, r, r', _, _, _, e => by
    cases xs with
    | nil => exact ⟨rfl, List.append_cancel_left e⟩
    | cons x xs => simp [restL] at e
  | y :: ys, xs, r, r', n, s, s', e => by
    have n' : nest y = true ∧ nests ys = true := by
      rw [nests, Bool.and_eq_true] at n
      exact n
    cases xs with
    | nil => simp [restL] at e
    | cons x xs =>
      simp only [restL, List.cons_append, List.append_assoc, List.cons.injEq, true_and] at e
      obtain ⟨h1, h2⟩ := told y x _ _ n'.1 (stop_rest _ _) (stop_rest _ _) e
      obtain ⟨h3, h4⟩ := toldR ys xs r r' n'.2 s s' h2
      exact ⟨by rw [h1, h3], h4⟩
end
theorem shown_inj {x y : PyData} (n : nest y = true) (h : x.shown = y.shown) : x = y :=
  (told y x [] [] n (.inl rfl) (.inl rfl) (by rw [List.append_nil, List.append_nil]; unfold cs; rw [h])).1
end ND

/-! ND39: rules for the plain laws, gathered from k10 and k11; loops that find -/
namespace ND
open PySem PySem.Spec L2
section
variable {σ : List SV} {f g h : GE} {x y : D} {s t : GS} {E : Ed}
theorem seq_or2 (a : Ev σ f (.bl false)) (b : Ev σ g (.bl false)) (q : t E σ) : gSeq (gIfS (gOrT (gB f) (gB g)) s gSkip) t E σ := a.run _ (b.run _ q)
theorem if_or2 (a : Ev σ f (.bl false)) (b : Ev σ g (.bl false)) (q : E.nx σ) : gIfS (gOrT (gB f) (gB g)) s gSkip E σ := a.run _ (b.run _ q)
theorem seq_or1 (a : Ev σ f (.bl false)) (q : t E σ) : gSeq (gIfS (gB f) s gSkip) t E σ := a.run _ q
theorem Ev.isT {b : Bool} (a : Ev σ f (.bl b)) : Ev σ (gBin (isD true) f (gC (.bl b))) (.bl false) := ⟨fun Q q => a.run _ (by
  show Q (.bl (!decide (b = b)))
  simpa using q)⟩
theorem Ev.isN (a : Ev σ f .non) : Ev σ (gBin (isD true) f (gC .non)) (.bl false) := ⟨fun Q q => a.run _ q⟩
theorem Ev.neT {xs : List D} (a : Ev σ f (.tup xs)) (b : Ev σ g (.tup xs)) (h : pl 64 (.tup xs) = true) : Ev σ (gBin neD f g) (.bl false) := ⟨fun Q q => a.run _ (b.run _ (by
  show _ ∧ _ ∧ Q (.bl (!eqb _ _))
  rw [eqb_refl h]
  exact ⟨h, h, q⟩))⟩
theorem for_cons {gt : GG} {h : GS} {xs : List D} (q : gt x σ fun σ' => h { E with nx := forG gt h xs E, ct := forG gt h xs E, bk := E.nx } σ') : forG gt h (x :: xs) E σ := q
theorem set_call {W : WD} {R : Er → Prop} {sp : DSp} {fs : GA} {xs : List D} {k : Nat} (a : EvA σ fs xs) (q : sp W xs (fun x => E.nx (σ.set k (.d x))) R) : gSet k (gCall sp W R fs) E σ := a.run _ q
theorem seq_for {fs : GA} {xs : List D} {gt : GG} {h : GS} (a : EvA σ fs xs) (hl : xs.length ≤ sizeLine) (q : forG gt h xs { E with nx := t E } σ) : gSeq (gFor (gIter (ND.gTup fs)) gt h) t E σ := a.run _ ⟨hl, q⟩
theorem seq_three (a : Ev σ f (.bl true)) (b : Ev σ g (.bl true)) (c : Ev σ h (.bl true)) (q : t E σ) : gSeq (gIfS (gOrT (gNotT (gTru f)) (gOrT (gNotT (gTru g)) (gNotT (gTru h)))) s gSkip) t E σ := by
  refine a.run _ ?_
  simp
  refine b.run _ ?_
  simp
  refine c.run _ ?_
  simpa using q
theorem if_three (a : Ev σ f (.bl true)) (b : Ev σ g (.bl true)) (c : Ev σ h (.bl true)) (q : E.nx σ) : gIfS (gOrT (gNotT (gTru f)) (gOrT (gNotT (gTru g)) (gNotT (gTru h)))) s gSkip E σ := by
  refine a.run _ ?_
  simp
  refine b.run _ ?_
  simp
  refine c.run _ ?_
  simpa using q
end
theorem Ev.mulL {σ : List SV} {f : GE} {xs : List D} {k : Int} (h : Ev σ f (.lst xs)) (h0 : 0 ≤ k) (h1 : k < 2 ^ 63) (hl : xs.length * k.toNat ≤ sizeLine) : Ev σ (gBin mulD f (gC (.int k))) (.lst (List.replicate k.toNat xs).flatten) := ⟨fun Q q => h.run _ ⟨h0, h1, hl, q⟩⟩
theorem one_lc {σ : List SV} {i : Nat} {ft : GT} {Q : List D → Prop} {c : D → Bool} (hi : i < σ.length) : ∀ (xs acc : List D), (∀ x ∈ xs, ∀ Qd : Bool → Prop, Qd (c x) → ft (σ.set i (.d x)) Qd) → acc.length + xs.length ≤ sizeLine → Q (acc ++ (xs.filter c).map fun _ => .int 1) → lcG (ggName i) ft (gC (.int 1)) [i] σ Q xs acc
  | [], acc, _, _, q => by simpa [lcG] using q
  | x :: xs, acc, h, hl, q => by
    simp only [List.length_cons] at hl
    simp only [lcG, ggName, wipeD, gC, List.set_set]
    refine h x List.mem_cons_self _ ?_
    cases hc : c x
    · simp only [Bool.false_eq_true, if_false]
      exact one_lc hi xs _ (fun y m => h y (List.mem_cons_of_mem _ m)) (by omega) (by simpa [hc] using q)
    · simp only [if_true]
      exact ⟨by omega, one_lc hi xs _ (fun y m => h y (List.mem_cons_of_mem _ m)) (by simp; omega) (by simpa [hc] using q)⟩
theorem and_ones {xs : List D} {P : Prop} {Q : D → Prop} (q1 : xs.all isI = true → P) (q2 : xs.all isI = false → Q (.bl false)) : pl 64 (.lst ([] ++ (xs.filter fun x => !isI x).map fun _ => .int 1)) = true ∧ pl 64 (.lst []) = true ∧ if eqb (.lst ([] ++ (xs.filter fun x => !isI x).map fun _ => .int 1)) (.lst []) = true then P else Q (.bl (eqb (.lst ([] ++ (xs.filter fun x => !isI x).map fun _ => .int 1)) (.lst []))) := by
  have e : ((xs.filter fun x => !isI x).map fun _ => D.int 1).isEmpty = xs.all isI := by
    induction xs with
    | nil => rfl
    | cons x xs ih => cases h : isI x <;> simp_all
  simp only [List.nil_append, pl, pls_ones, eqb, toPy, ne_nil, e]
  refine ⟨trivial, by simp [pls], ?_⟩
  cases h : xs.all isI
  · simpa [h] using q2 h
  · simpa [h] using q1 h
theorem rep_app (n : Nat) (r : D) : List.replicate n r ++ [r] = List.replicate (n + 1) r := by simp [List.replicate_succ']
theorem app_rep {σ : List SV} {k n : Nat} {f : GE} {r : D} {s : GS} {E : Ed} (hk : σ[k]? = some (.ol (List.replicate n r))) (h : Ev σ f r) (hl : n < 100) (q : s E (σ.set k (.ol (List.replicate (n + 1) r)))) : gSeq (gApp k f) s E σ := seq_app hk h (by rw [List.length_replicate]; exact Nat.lt_trans hl (by decide)) (by rw [rep_app]; exact q)
def fOf : D → Int → Int
  | .tup [a, b, c, d, e] => at5 (nOf a) (nOf b) (nOf c) (nOf d) (nOf e)
  | _ => fun _ => 0
theorem sumN_D {x : D} {Q : D → Prop} (h : isFive x = true) (q : Q (.int (sumN x))) : sumD [x] Q := by
  obtain ⟨xs, rfl, hl, ha⟩ := five_xs h
  exact ⟨_, ints_of ha, q⟩
theorem cor_five {x : D} (h : isCor x = true) : isFive x = true := by
  cases hf : isFive x
  · rw [cor_no hf] at h
    cases h
  · rfl
theorem five_f {x : D} (h : isFive x = true) : x = tup5 (fOf x) := by
  obtain ⟨xs, rfl, hl, ha⟩ := five_xs h
  match xs, hl with
  | [a, b, c, d, e], _ =>
    simp at ha
    obtain ⟨h1, h2, h3, h4, h5⟩ := ha
    obtain ⟨a, rfl⟩ := isI_n h1
    obtain ⟨b, rfl⟩ := isI_n h2
    obtain ⟨c, rfl⟩ := isI_n h3
    obtain ⟨d, rfl⟩ := isI_n h4
    obtain ⟨e, rfl⟩ := isI_n h5
    exact tup5_mk a b c d e
theorem Ev.eqI2 {σ : List SV} {f g : GE} {i j : Int} (h : Ev σ f (.int i)) (k : Ev σ g (.int j)) : Ev σ (gBin eqD f g) (.bl (decide (i = j))) := h.eqI k
theorem all_lcP {W : WD} {σ : List SV} {i : Nat} {Q : List D → Prop} {c : D → Bool} {P : D → Prop} (sp : DSp) (hs : ∀ x Qd, P x → Qd (.bl (c x)) → sp W [x] Qd fun _ => False) (hi : i < σ.length) : ∀ (xs acc : List D), (∀ x ∈ xs, P x) → acc.length + xs.length ≤ sizeLine → Q (acc ++ xs.map fun x => .bl (c x)) →
    lcG (ggName i) gYes (gCall sp W (fun _ => False) (ND.gCons (gVar i) ND.gNil)) [i] σ Q xs acc
  | [], acc, _, _, q => by simpa [lcG] using q
  | x :: xs, acc, h, hl, q => by
    simp only [List.length_cons] at hl
    have e : (σ.set i (.d x))[i]? = some (.d x) := by simp [hi]
    simp only [lcG, ggName, gYes, gCall, ND.gCons, ND.gNil, gVar, e, if_true, wipeD, List.set_set]
    refine hs x _ (h x List.mem_cons_self) ⟨by omega, ?_⟩
    exact all_lcP sp hs hi xs _ (fun y m => h y (List.mem_cons_of_mem _ m)) (by simp; omega) (by simpa using q)
/-- a loop that returns at the first thing for which it finds something -/
theorem forG_find {ι : Type} {gt : GG} {g : GS} {E : Ed} (h : ι → D) (c : ι → Option D) (I : List SV → Prop) : ∀ (is : List ι) (σ : List SV), I σ → (∀ v, is.findSome? c = some v → E.rt v) → (is.findSome? c = none → ∀ σ, I σ → E.nx σ) →
    (∀ i ∈ is, ∀ σ, I σ → ∀ E' : Ed, E'.rt = E.rt → (∀ v, c i = some v → E.rt v) → (c i = none → ∀ σ2, I σ2 → E'.nx σ2) → (c i = none → ∀ σ2, I σ2 → E'.ct σ2) → gt (h i) σ fun σ' => g E' σ') → forG gt g (is.map h) E σ
  | [], σ, hI, _, hn, _ => hn rfl σ hI
  | i :: is, σ, hI, hv, hn, step => by
    have rest : c i = none → ∀ σ2, I σ2 → forG gt g (is.map h) E σ2 := fun e σ2 h2 =>
      forG_find h c I is σ2 h2 (fun v ev => hv v (by rw [List.findSome?_cons, e]; exact ev)) (fun ev => hn (by rw [List.findSome?_cons, e]; exact ev)) fun j m => step j (List.mem_cons_of_mem _ m)
    exact step i List.mem_cons_self σ hI { E with nx := forG gt g (is.map h) E, ct := forG gt g (is.map h) E, bk := E.nx } rfl (fun v ev => hv v (by rw [List.findSome?_cons, ev])) (fun e => rest e) fun e => rest e
end ND

/-! ND40: x, y, z = [..], e, f -/
namespace ND
open PySem PySem.Spec L2
section
variable {B : Bs} {X : Cx} {a b c : Expr} {fb fc : GE} {pos : Pos}
@[simp] def gParL3 (i j l : Nat) (fs : GA) (fb fc : GE) (E : Ed) (σ : List SV) : Prop := fs σ fun ds => fb σ fun y => fc σ fun z => E.nx (((σ.set i (.ol ds)).set j (.d y)).set l (.d z))
theorem sd_parL3 {i j l : Nat} {x y z : Str} {px py pz pt : Pos} {kt k2 pt2} {fs : GA} (hc : X.calm = true) (hN : X.N.Nodup) (hi : X.N[i]? = some x) (hj : X.N[j]? = some y) (hl : X.N[l]? = some z) (hij : i ≠ j) (hil : i ≠ l) (hjl : j ≠ l)
    (hx : X.env.scope.names.lookup x = some .local) (hy : X.env.scope.names.lookup y = some .local) (hz : X.env.scope.names.lookup z = some .local) (ha : FD B X a fs) (hb : ED B X b fb) (hd : ED B X c fc)
    (hw : swappedStores [.Tuple [.Name x px, .Name y py, .Name z pz] kt pt] (.Tuple [a, b, c] k2 pt2) X.env = pure (some [x, y, z]))
    (hs : swapsWithSole [.Tuple [.Name x px, .Name y py, .Name z pz] kt pt] (.Tuple [a, b, c] k2 pt2) pos.line X.env = pure false := by rfl)
    (h1 : starEach [a, b, c] X.env = (false, eval a X.env) :: starEach [b, c] X.env := by rfl) (h2 : starEach [b, c] X.env = (false, eval b X.env) :: starEach [c] X.env := by rfl) (h3 : starEach [c] X.env = (false, eval c X.env) :: starEach [] X.env := by rfl) :
    SD B X (.Assign [.Tuple [.Name x px, .Name y py, .Name z pz] kt pt] (.Tuple [a, b, c] k2 pt2) pos) (gParL3 i j l fs fb fc) :=
  ⟨ps_imp (ps_par3 hc hN hi hj hl hij hil hjl hx hy hz (pa_cons ha.run (pa_cons hb.run (pa_cons hd.run pa_nil h3) h2) h1) hw hs) fun Dn s H ⟨σ, F, E, R, q, k⟩ => ⟨σ, F, _, R, q, fun ds qd F1 H1 p vs g1 d1 hp fp ep rs => by
    refine ⟨σ, F1, _, R.grow g1 d1, qd, fun y qy F2 H2 v g2 d2 r2 => ?_⟩
    refine ⟨σ, F2, _, R.grow (g1.trans g2) d2, qy, fun z qz F3 H3 u g3 d3 r3 => ?_⟩
    have nw : ¬ InW B.W p := fun w => (R.deck.w w).2 hp
    have e2 : H2 p = some (.lst vs) := g2.hh p _ ep nw (by intro _ z; cases z)
    have f2 : F2 p = none := g2.new p fp (by rw [ep]; exact Option.some_ne_none _)
    have e3 : H3 p = some (.lst vs) := g3.hh p _ e2 nw (by intro _ z; cases z)
    have f3 : F3 p = none := g3.new p f2 (by rw [e2]; exact Option.some_ne_none _)
    have g := (g1.trans g2).trans g3
    have R2 := R.setNew (i := i) (x := .ol ds) g d3 hp f3 ⟨rfl, vs, e3, (rs.mono g2.ff).mono g3.ff⟩
    exact ⟨_, _, _, rfl, k.nx _ _ F3 H3 g.ff ((R2.set (r2.mono g3.ff)).set r3) qz⟩⟩⟩
end
end ND

/-! ND41: repr of any value, a dict too -/
namespace ND
open PySem PySem.Spec L2
open PySem.SeqAt PySem.AutoSeq1
section
variable {prog : Program} {w : World} {A : Around} {E : Value → Shared → Prop} {s : Shared}
theorem repr_big2 {a : Addr} {d : PyData} {as : List Addr} {Q : Value → Shared → Prop} (hn : s.heap.NoDigits) (r : Reads s.heap (.ref a) d as) (sf : SafeD s.heap as) (o : bigOk d = true) (z : d.shown.length ≤ sizeLine) (hg : A.guards = some []) (hu : A.units + (d.depth + 1) < cLine)
    (q : ∀ h' u tk, (∀ b o, s.heap.get? b = some o → h'.get? b = some o) → Q (.str d.shown u) { s with heap := h', toks := tk }) : wpAny (model prog w) A (call (.builtin "repr") [.ref a]) Q E s := by
  cases hd : isDct d with
  | false => exact repr_big hn r sf hd o z hg hu q
  | true =>
    have hk0 : ∀ b o, s.heap.get? b = some o → s.heap.get? b = some o := fun _ _ e => e
    cases r with
    | tuple g1 g2 g3 g4 => cases hd
    | list g1 g2 g3 g4 => cases hd
    | dict g1 g2 g3 g4 g5 =>
      rename_i ob es n kvs a1 a2
      have z1 : (dictText (PyData.shownKv kvs)).length ≤ sizeLine := by simpa only [PyData.shown] using z
      obtain ⟨o1, o2⟩ := bigKv_split kvs (by simpa only [bigOk] using o)
      obtain ⟨b1, l1, k1⟩ := bigs_reads (prog := prog) (w := w) hn g4 (sf.sub fun _ m => List.mem_cons_of_mem _ (List.mem_append_left _ m)) o1 fun t m => by
        obtain ⟨p, mp, lp⟩ := PyData.shownKv_key_le kvs t m
        exact Nat.le_trans lp (Nat.le_trans (dictText_mem_le mp) z1)
      obtain ⟨b2, l2, k2⟩ := bigs_reads (prog := prog) (w := w) hn g5 (sf.sub fun _ m => List.mem_cons_of_mem _ (List.mem_append_right _ m)) o2 fun t m => by
        obtain ⟨p, mp, lp⟩ := PyData.shownKv_val_le kvs t m
        exact Nat.le_trans lp (Nat.le_trans (dictText_mem_le mp) z1)
      have rd := Reads.dict g1 g2 g3 g4 g5
      have low : ReadAtMost s.heap (PyData.depthKv kvs) (b1 ++ b2) := (l1.mono (PyData.depthAll_keys_le kvs)).append (l2.mono (PyData.depthAll_vals_le kvs))
      simp only [PyData.depth] at hu
      simp only [PyData.shown, PyData.shownKv_eq] at q z1 ⊢
      exact call_repr_slot (by omega) ⟨ob, g1, g2⟩ F.slot_dict_repr (call_dict_reprK g1 g2 g3 (sf a (List.mem_append_left _ List.mem_cons_self) _ _ _ g1 g3) (not_mem_of_deeper rd (by simp only [PyData.depth]; omega) low)
        (.of_two es.toList _ _ (k1.more_le (fun _ => List.mem_append_left _) (PyData.depthAll_keys_le kvs)) (k2.more_le (fun _ => List.mem_append_right _) (PyData.depthAll_vals_le kvs)))
        hg (fun b _ => Clear.nil b) (by show A.units + 1 + _ < cLine; omega) hk0 (fun h' u tk k => ⟨_, _, rfl, q h' u tk k⟩) z1)
end
section
variable {B : Bs} {X : Cx} {pins : List (Addr × Obj)} {σ : L2.St} {H F : Hp} {s : Shared}
theorem repB_reads3 (I : Inv X pins σ H s) (e : Same F H) {d : D} {v : V} {u : Value} {W : WT} (p : rp 64 d = true) (h : RepB W X.kn F H v d) (r : RelV v u) : ∃ as, Reads s.heap u (toPy d) as ∧ SafeD s.heap as := by
  rcases h with h | ⟨a, ds, vs, rfl, rfl, _, h, rs⟩ | ⟨a, ds, vs, rfl, rfl, _, h, rs⟩
  · exact rep_reads I e 64 d v u p h r
  · cases r
    obtain ⟨its, rv, ⟨o, m, ho, hc, _, hd⟩, _⟩ := I.list (SqL.of h)
    obtain ⟨as, hr, sf⟩ := reps_reads I e 63 ds _ its (by simpa only [rp] using p) rs rv
    exact ⟨_, by simp only [toPy]; exact .list ho hc hd hr, safe_seq ho hd sf⟩
  · cases r
    obtain ⟨_, hS, vs, kv, o, es, ep, ho, hx, hd, _, hp, _⟩ := I.hok _ _ h
    obtain ⟨as, bs, h1, h2, s1, s2⟩ := repk_reads I e 63 ds _ vs es.toList (by simpa only [rp] using p) rs kv hp
    refine ⟨_, by simp only [toPy]; exact .dict ho hx.1 hd h1 h2, safe_app (fun b m ob es' k e1 e2 => ?_) s2⟩
    rcases List.mem_cons.mp m with z | z
    · subst z
      exact hS
    · exact s1 b z ob es' k e1 e2
def reprV : List D → (D → Prop) → Prop
  | [x], Q => rp 64 x = true ∧ bigOk (toPy x) = true ∧ (toPy x).shown.length ≤ sizeLine ∧ Q (.str (toPy x).shown)
  | _, _ => False
@[simp] theorem reprV_x (x : D) (Q : D → Prop) : reprV [x] Q = (rp 64 x = true ∧ bigOk (toPy x) = true ∧ (toPy x).shown.length ≤ sizeLine ∧ Q (.str (toPy x).shown)) := rfl
theorem c_reprV (hd : Dig X.K) (hG : X.A.guards = some []) (hu : X.A.units + 65 < cLine) : CallR X (.builtin "repr") (LCa B X.kn reprV) := fun pins s σ H vs us Q I rx ⟨F, ds, Qd, e, dk, r, q, k⟩ => by
  unfold reprV at q
  split at q
  · rename_i x
    obtain ⟨h1, h2, h3, h4⟩ := q
    cases hx : isDct (toPy x) with
    | false => exact c_reprB (B := B) hd hG hu pins s σ H vs us Q I rx ⟨F, _, Qd, e, dk, r, ⟨h1, hx, h2, h3, h4⟩, k⟩
    | true =>
      obtain ⟨v, rfl, r1⟩ := rb1 r
      obtain ⟨u, rfl, ru⟩ := vals1 rx
      have fin : Q (.str (toPy x).shown) H := k.here e dk h4 (.str _)
      have sh := rp_depth 64 x h1
      obtain ⟨as, rd, sf⟩ := repB_reads3 I e h1 r1 ru
      have ha : ∃ a, u = .ref a := by
        cases x <;> simp [toPy, isDct] at hx
        simp only [toPy] at rd
        cases rd
        exact ⟨_, rfl⟩
      obtain ⟨a, rfl⟩ := ha
      exact repr_big2 (hd.at I.kIn) rd sf h2 h3 hG (by omega) fun h' u tk hk => ⟨.str _, H, I.kept (t' := tk) hk, ⟨_, rfl⟩, fin⟩
  · exact q.elim
end
end ND
namespace K16
open PySem PySem.Spec L2 ND
open PyProof.Rows (envOfC)
def top (i : Nat) : Stmt := PySem.Challenge.pw_nevertwice_k16_whole_all_tiles_that_coul.main.body.getD i (.Pass ⟨0, 0, 0, 0⟩)
theorem sc_is_integer : FnScope ["thing"] ["thing"] (defScope (top 6)) := ⟨rfl, rfl, rfl, by decide +kernel, rfl, by decide +kernel, by decide +kernel⟩
theorem bp_is_integer : BindsP "is_integer" (top 6) ["thing"] := fun _ _ _ _ _ _ us hl => match us, hl with | [_], _ => rfl
theorem sc_is_direction : FnScope ["thing"] ["thing"] (defScope (top 8)) := ⟨rfl, rfl, rfl, by decide +kernel, rfl, by decide +kernel, by decide +kernel⟩
theorem bp_is_direction : BindsP "is_direction" (top 8) ["thing"] := fun _ _ _ _ _ _ us hl => match us, hl with | [_], _ => rfl
theorem sc_is_five : FnScope ["thing", "part"] ["thing"] (defScope (top 9)) := ⟨rfl, rfl, rfl, by decide +kernel, rfl, by decide +kernel, by decide +kernel⟩
theorem bp_is_five : BindsP "is_five" (top 9) ["thing"] := fun _ _ _ _ _ _ us hl => match us, hl with | [_], _ => rfl
theorem sc_is_corner_five : FnScope ["thing"] ["thing"] (defScope (top 10)) := ⟨rfl, rfl, rfl, by decide +kernel, rfl, by decide +kernel, by decide +kernel⟩
theorem bp_is_corner_five : BindsP "is_corner_five" (top 10) ["thing"] := fun _ _ _ _ _ _ us hl => match us, hl with | [_], _ => rfl
theorem sc_raised : FnScope ["row", "direction", "found"] ["row", "direction"] (defScope (top 11)) := ⟨rfl, rfl, rfl, by decide +kernel, rfl, by decide +kernel, by decide +kernel⟩
theorem bp_raised : BindsP "raised" (top 11) ["row", "direction"] := fun _ _ _ _ _ _ us hl => match us, hl with | [_, _], _ => rfl
theorem sc_are_near : FnScope ["r", "s"] ["r", "s"] (defScope (top 12)) := ⟨rfl, rfl, rfl, by decide +kernel, rfl, by decide +kernel, by decide +kernel⟩
theorem bp_are_near : BindsP "are_near" (top 12) ["r", "s"] := fun _ _ _ _ _ _ us hl => match us, hl with | [_, _], _ => rfl
theorem sc_is_tile_row : FnScope ["thing"] ["thing"] (defScope (top 14)) := ⟨rfl, rfl, rfl, by decide +kernel, rfl, by decide +kernel, by decide +kernel⟩
theorem bp_is_tile_row : BindsP "is_tile_row" (top 14) ["thing"] := fun _ _ _ _ _ _ us hl => match us, hl with | [_], _ => rfl
theorem sc_need_tile : FnScope ["thing"] ["thing"] (defScope (top 15)) := ⟨rfl, rfl, rfl, by decide +kernel, rfl, by decide +kernel, by decide +kernel⟩
theorem bp_need_tile : BindsP "need_tile" (top 15) ["thing"] := fun _ _ _ _ _ _ us hl => match us, hl with | [_], _ => rfl
theorem sc_corners_of : FnScope ["tile", "foot", "r", "s", "one"] ["tile"] (defScope (top 16)) := ⟨rfl, rfl, rfl, by decide +kernel, rfl, by decide +kernel, by decide +kernel⟩
theorem bp_corners_of : BindsP "corners_of" (top 16) ["tile"] := fun _ _ _ _ _ _ us hl => match us, hl with | [_], _ => rfl
theorem sc_edges_of : FnScope ["tile", "foot", "r", "s"] ["tile"] (defScope (top 17)) := ⟨rfl, rfl, rfl, by decide +kernel, rfl, by decide +kernel, by decide +kernel⟩
theorem bp_edges_of : BindsP "edges_of" (top 17) ["tile"] := fun _ _ _ _ _ _ us hl => match us, hl with | [_], _ => rfl
theorem sc_is_thick : FnScope ["tile"] ["tile"] (defScope (top 18)) := ⟨rfl, rfl, rfl, by decide +kernel, rfl, by decide +kernel, by decide +kernel⟩
theorem bp_is_thick : BindsP "is_thick" (top 18) ["tile"] := fun _ _ _ _ _ _ us hl => match us, hl with | [_], _ => rfl
theorem sc_is_low : FnScope ["tile"] ["tile"] (defScope (top 19)) := ⟨rfl, rfl, rfl, by decide +kernel, rfl, by decide +kernel, by decide +kernel⟩
theorem bp_is_low : BindsP "is_low" (top 19) ["tile"] := fun _ _ _ _ _ _ us hl => match us, hl with | [_], _ => rfl
theorem sc_marks_of : FnScope ["tile", "inner"] ["tile"] (defScope (top 20)) := ⟨rfl, rfl, rfl, by decide +kernel, rfl, by decide +kernel, by decide +kernel⟩
theorem bp_marks_of : BindsP "marks_of" (top 20) ["tile"] := fun _ _ _ _ _ _ us hl => match us, hl with | [_], _ => rfl
theorem sc_lies_left : FnScope ["tile", "number", "own", "other", "is_onward"] ["tile", "number"] (defScope (top 21)) := ⟨rfl, rfl, rfl, by decide +kernel, rfl, by decide +kernel, by decide +kernel⟩
theorem bp_lies_left : BindsP "lies_left" (top 21) ["tile", "number"] := fun _ _ _ _ _ _ us hl => match us, hl with | [_, _], _ => rfl
theorem sc_is_left : FnScope ["tile", "edge", "edges", "number"] ["tile", "edge"] (defScope (top 22)) := ⟨rfl, rfl, rfl, by decide +kernel, rfl, by decide +kernel, by decide +kernel⟩
theorem bp_is_left : BindsP "is_left" (top 22) ["tile", "edge"] := fun _ _ _ _ _ _ us hl => match us, hl with | [_, _], _ => rfl
theorem sc_is_edge_row : FnScope ["thing"] ["thing"] (defScope (top 23)) := ⟨rfl, rfl, rfl, by decide +kernel, rfl, by decide +kernel, by decide +kernel⟩
theorem bp_is_edge_row : BindsP "is_edge_row" (top 23) ["thing"] := fun _ _ _ _ _ _ us hl => match us, hl with | [_], _ => rfl
theorem sc_does_fit : FnScope ["one", "other", "first", "second", "at", "place"] ["one", "other"] (defScope (top 24)) := ⟨rfl, rfl, rfl, by decide +kernel, rfl, by decide +kernel, by decide +kernel⟩
theorem bp_does_fit : BindsP "does_fit" (top 24) ["one", "other"] := fun _ _ _ _ _ _ us hl => match us, hl with | [_, _], _ => rfl
theorem sc__law_deck : FnScope ["_law_script", "_law_mixed", "_law_cell"] ["_law_script"] (defScope (top 26)) := ⟨rfl, rfl, rfl, by decide +kernel, rfl, by decide +kernel, by decide +kernel⟩
theorem bp__law_deck : BindsP "_law_deck" (top 26) ["_law_script"] := fun _ _ _ _ _ _ us hl => match us, hl with | [_], _ => rfl
theorem sc__law_draw : FnScope ["_law_deck_here", "_law_many", "_law_figure", "_law_cell"] ["_law_deck_here", "_law_many"] (defScope (top 27)) := ⟨rfl, rfl, rfl, by decide +kernel, rfl, by decide +kernel, by decide +kernel⟩
theorem bp__law_draw : BindsP "_law_draw" (top 27) ["_law_deck_here", "_law_many"] := fun _ _ _ _ _ _ us hl => match us, hl with | [_, _], _ => rfl
theorem sc__law_pick : FnScope ["_law_deck_here", "_law_some"] ["_law_deck_here", "_law_some"] (defScope (top 28)) := ⟨rfl, rfl, rfl, by decide +kernel, rfl, by decide +kernel, by decide +kernel⟩
theorem bp__law_pick : BindsP "_law_pick" (top 28) ["_law_deck_here", "_law_some"] := fun _ _ _ _ _ _ us hl => match us, hl with | [_, _], _ => rfl
theorem sc__law_integer : FnScope ["_law_deck_here", "_law_pieces", "_law_way", "_law_facing", "_law_found", "_law_piece"] ["_law_deck_here", "_law_pieces"] (defScope (top 29)) := ⟨rfl, rfl, rfl, by decide +kernel, rfl, by decide +kernel, by decide +kernel⟩
theorem bp__law_integer : BindsP "_law_integer" (top 29) ["_law_deck_here", "_law_pieces"] := fun _ _ _ _ _ _ us hl => match us, hl with | [_, _], _ => rfl
theorem sc__law_same : FnScope ["_law_told_here", "_law_due"] ["_law_told_here", "_law_due"] (defScope (top 30)) := ⟨rfl, rfl, rfl, by decide +kernel, rfl, by decide +kernel, by decide +kernel⟩
theorem bp__law_same : BindsP "_law_same" (top 30) ["_law_told_here", "_law_due"] := fun _ _ _ _ _ _ us hl => match us, hl with | [_, _], _ => rfl
theorem sc__law_step : FnScope ["_law_k", "_law_r", "_law_many"] ["_law_k", "_law_r", "_law_many"] (defScope (top 31)) := ⟨rfl, rfl, rfl, by decide +kernel, rfl, by decide +kernel, by decide +kernel⟩
theorem bp__law_step : BindsP "_law_step" (top 31) ["_law_k", "_law_r", "_law_many"] := fun _ _ _ _ _ _ us hl => match us, hl with | [_, _, _], _ => rfl
theorem sc__law_drawn : FnScope ["_law_deck_here", "_law_found", "_law_at", "_law_r", "_law_s", "_law_j"] ["_law_deck_here"] (defScope (top 32)) := ⟨rfl, rfl, rfl, by decide +kernel, rfl, by decide +kernel, by decide +kernel⟩
theorem bp__law_drawn : BindsP "_law_drawn" (top 32) ["_law_deck_here"] := fun _ _ _ _ _ _ us hl => match us, hl with | [_], _ => rfl
theorem sc__law_borders : FnScope ["_law_rhomb", "_law_k", "_law_r", "_law_s"] ["_law_rhomb"] (defScope (top 33)) := ⟨rfl, rfl, rfl, by decide +kernel, rfl, by decide +kernel, by decide +kernel⟩
theorem bp__law_borders : BindsP "_law_borders" (top 33) ["_law_rhomb"] := fun _ _ _ _ _ _ us hl => match us, hl with | [_], _ => rfl
theorem sc__law_is_lefthand : FnScope ["_law_j", "_law_beside", "_law_is_up", "_law_reach"] ["_law_j", "_law_beside", "_law_is_up"] (defScope (top 34)) := ⟨rfl, rfl, rfl, by decide +kernel, rfl, by decide +kernel, by decide +kernel⟩
theorem bp__law_is_lefthand : BindsP "_law_is_lefthand" (top 34) ["_law_j", "_law_beside", "_law_is_up"] := fun _ _ _ _ _ _ us hl => match us, hl with | [_, _, _], _ => rfl
theorem sc__law_mark : FnScope ["_law_rhomb", "_law_edge"] ["_law_rhomb", "_law_edge"] (defScope (top 35)) := ⟨rfl, rfl, rfl, by decide +kernel, rfl, by decide +kernel, by decide +kernel⟩
theorem bp__law_mark : BindsP "_law_mark" (top 35) ["_law_rhomb", "_law_edge"] := fun _ _ _ _ _ _ us hl => match us, hl with | [_, _], _ => rfl
theorem sc__law_do_fit : FnScope ["_law_near", "_law_far", "_law_others", "_law_edge", "_law_beside", "_law_is_up", "_law_it", "_law_one", "_law_other"] ["_law_near", "_law_far"] (defScope (top 36)) := ⟨rfl, rfl, rfl, by decide +kernel, rfl, by decide +kernel, by decide +kernel⟩
theorem bp__law_do_fit : BindsP "_law_do_fit" (top 36) ["_law_near", "_law_far"] := fun _ _ _ _ _ _ us hl => match us, hl with | [_, _], _ => rfl
theorem sc__law_is_tile : FnScope ["_law_thing", "_law_it"] ["_law_thing"] (defScope (top 37)) := ⟨rfl, rfl, rfl, by decide +kernel, rfl, by decide +kernel, by decide +kernel⟩
theorem bp__law_is_tile : BindsP "_law_is_tile" (top 37) ["_law_thing"] := fun _ _ _ _ _ _ us hl => match us, hl with | [_], _ => rfl
theorem sc__law_odd : FnScope ["_law_deck_here", "_law_it", "_law_some"] ["_law_deck_here", "_law_it"] (defScope (top 38)) := ⟨rfl, rfl, rfl, by decide +kernel, rfl, by decide +kernel, by decide +kernel⟩
theorem bp__law_odd : BindsP "_law_odd" (top 38) ["_law_deck_here", "_law_it"] := fun _ _ _ _ _ _ us hl => match us, hl with | [_, _], _ => rfl
theorem sc__law_bent : FnScope ["_law_deck_here", "_law_it", "_law_at"] ["_law_deck_here", "_law_it"] (defScope (top 39)) := ⟨rfl, rfl, rfl, by decide +kernel, rfl, by decide +kernel, by decide +kernel⟩
theorem bp__law_bent : BindsP "_law_bent" (top 39) ["_law_deck_here", "_law_it"] := fun _ _ _ _ _ _ us hl => match us, hl with | [_, _], _ => rfl
theorem sc__law_maybe : FnScope ["_law_deck_here", "_law_it"] ["_law_deck_here", "_law_it"] (defScope (top 40)) := ⟨rfl, rfl, rfl, by decide +kernel, rfl, by decide +kernel, by decide +kernel⟩
theorem bp__law_maybe : BindsP "_law_maybe" (top 40) ["_law_deck_here", "_law_it"] := fun _ _ _ _ _ _ us hl => match us, hl with | [_, _], _ => rfl
theorem sc__law_told : FnScope ["_law_call", "_law_told_here", "e"] ["_law_call"] (defScope (top 41)) := ⟨rfl, rfl, rfl, by decide +kernel, rfl, by decide +kernel, by decide +kernel⟩
theorem bp__law_told : BindsP "_law_told" (top 41) ["_law_call"] := fun _ _ _ _ _ _ us hl => match us, hl with | [_], _ => rfl
theorem sc__law_is_alone_right : FnScope ["_law_thing", "_law_due", "_law_told_here", "_law_k", "_law_r", "_law_s", "_law_sides", "_law_four", "_law_it", "_law_edge"] ["_law_thing"] (defScope (top 42)) := ⟨rfl, rfl, rfl, by decide +kernel, rfl, by decide +kernel, by decide +kernel⟩
theorem bp__law_is_alone_right : BindsP "_law_is_alone_right" (top 42) ["_law_thing"] := fun _ _ _ _ _ _ us hl => match us, hl with | [_], _ => rfl
theorem sc__law_are_two_right : FnScope ["_law_near", "_law_far", "_law_edge", "_law_told_here", "_law_due", "_law_side", "_law_some", "_law_it"] ["_law_near", "_law_far", "_law_edge"] (defScope (top 43)) := ⟨rfl, rfl, rfl, by decide +kernel, rfl, by decide +kernel, by decide +kernel⟩
theorem bp__law_are_two_right : BindsP "_law_are_two_right" (top 43) ["_law_near", "_law_far", "_law_edge"] := fun _ _ _ _ _ _ us hl => match us, hl with | [_, _, _], _ => rfl
theorem sc__law_are_neighbours_right : FnScope ["_law_rhomb", "_law_edge", "_law_beside", "_law_is_up", "_law_s", "_law_many", "_law_foot", "_law_far", "_law_due"] ["_law_rhomb"] (defScope (top 44)) := ⟨rfl, rfl, rfl, by decide +kernel, rfl, by decide +kernel, by decide +kernel⟩
theorem bp__law_are_neighbours_right : BindsP "_law_are_neighbours_right" (top 44) ["_law_rhomb"] := fun _ _ _ _ _ _ us hl => match us, hl with | [_], _ => rfl
theorem sc_law : FnScope ["_law_script", "_law_deck_here", "_law_turn", "_law_near", "_law_far", "_law_edge", "_law_text"] ["_law_script"] (defScope (top 45)) := ⟨rfl, rfl, rfl, by decide +kernel, rfl, by decide +kernel, by decide +kernel⟩
theorem bp_law : BindsP "law" (top 45) ["_law_script"] := fun _ _ _ _ _ _ us hl => match us, hl with | [_], _ => rfl
theorem kb_is_tile_row_0 : BindsKw "is_tile_row" (top 14) ["thing"] ["thing"] 0 1 [0] := fun _ _ _ _ _ _ us ws h1 h2 => match us, ws, h1, h2 with | [], [_], _, _ => rfl
theorem kb_corners_of_0 : BindsKw "corners_of" (top 16) ["tile"] ["tile"] 0 1 [0] := fun _ _ _ _ _ _ us ws h1 h2 => match us, ws, h1, h2 with | [], [_], _, _ => rfl
theorem kb_edges_of_0 : BindsKw "edges_of" (top 17) ["tile"] ["tile"] 0 1 [0] := fun _ _ _ _ _ _ us ws h1 h2 => match us, ws, h1, h2 with | [], [_], _, _ => rfl
theorem kb_is_thick_0 : BindsKw "is_thick" (top 18) ["tile"] ["tile"] 0 1 [0] := fun _ _ _ _ _ _ us ws h1 h2 => match us, ws, h1, h2 with | [], [_], _, _ => rfl
theorem kb_is_low_0 : BindsKw "is_low" (top 19) ["tile"] ["tile"] 0 1 [0] := fun _ _ _ _ _ _ us ws h1 h2 => match us, ws, h1, h2 with | [], [_], _, _ => rfl
theorem kb_marks_of_0 : BindsKw "marks_of" (top 20) ["tile"] ["tile"] 0 1 [0] := fun _ _ _ _ _ _ us ws h1 h2 => match us, ws, h1, h2 with | [], [_], _, _ => rfl
theorem kb_does_fit_0 : BindsKw "does_fit" (top 24) ["one", "other"] ["other", "one"] 0 2 [1, 0] := fun _ _ _ _ _ _ us ws h1 h2 => match us, ws, h1, h2 with | [], [_, _], _, _ => rfl
theorem kb_is_left_0 : BindsKw "is_left" (top 22) ["tile", "edge"] ["edge", "tile"] 0 2 [1, 0] := fun _ _ _ _ _ _ us ws h1 h2 => match us, ws, h1, h2 with | [], [_, _], _, _ => rfl
structure Bt (mg : Str → Option Value) : Prop where
  b_all : mg "all" = none
  b_bool : mg "bool" = none
  b_int : mg "int" = none
  b_isinstance : mg "isinstance" = none
  b_len : mg "len" = none
  b_list : mg "list" = none
  b_max : mg "max" = none
  b_min : mg "min" = none
  b_range : mg "range" = none
  b_repr : mg "repr" = none
  b_str : mg "str" = none
  b_sum : mg "sum" = none
  b_tuple : mg "tuple" = none
def clsML : List (Str × Str × Bool) := [("BadEdge", "BadEdge", true), ("BadEdge", "BadTile", false), ("BadEdge", "FloorError", true), ("BadTile", "BadEdge", false), ("BadTile", "BadTile", true), ("BadTile", "FloorError", true)]
def clsM (a b : Str) : Option Bool := look3 clsML a b
@[simp] theorem clsM_BadEdge_BadEdge : clsM "BadEdge" "BadEdge" = some true := by decide +kernel
@[simp] theorem clsM_BadEdge_BadTile : clsM "BadEdge" "BadTile" = some false := by decide +kernel
@[simp] theorem clsM_BadEdge_FloorError : clsM "BadEdge" "FloorError" = some true := by decide +kernel
@[simp] theorem clsM_BadTile_BadEdge : clsM "BadTile" "BadEdge" = some false := by decide +kernel
@[simp] theorem clsM_BadTile_BadTile : clsM "BadTile" "BadTile" = some true := by decide +kernel
@[simp] theorem clsM_BadTile_FloorError : clsM "BadTile" "FloorError" = some true := by decide +kernel
def clsIL : List (Str × Str × Bool) := [("BadEdge", "BadCorner", false), ("BadEdge", "BadEdge", true), ("BadEdge", "BadTile", false), ("BadEdge", "FloorError", true), ("BadTile", "BadCorner", false), ("BadTile", "BadEdge", false), ("BadTile", "BadTile", true), ("BadTile", "FloorError", true)]
def clsI (a b : Str) : Option Bool := look3 clsIL a b
@[simp] theorem clsI_BadEdge_BadCorner : clsI "BadEdge" "BadCorner" = some false := by decide +kernel
@[simp] theorem clsI_BadEdge_BadEdge : clsI "BadEdge" "BadEdge" = some true := by decide +kernel
@[simp] theorem clsI_BadEdge_BadTile : clsI "BadEdge" "BadTile" = some false := by decide +kernel
@[simp] theorem clsI_BadEdge_FloorError : clsI "BadEdge" "FloorError" = some true := by decide +kernel
@[simp] theorem clsI_BadTile_BadCorner : clsI "BadTile" "BadCorner" = some false := by decide +kernel
@[simp] theorem clsI_BadTile_BadEdge : clsI "BadTile" "BadEdge" = some false := by decide +kernel
@[simp] theorem clsI_BadTile_BadTile : clsI "BadTile" "BadTile" = some true := by decide +kernel
@[simp] theorem clsI_BadTile_FloorError : clsI "BadTile" "FloorError" = some true := by decide +kernel
def knownE (a : Str) : Bool := a == "BadEdge" || a == "BadTile"
def initS (i : Nat) : Stmt := match top i with
  | .ClassDef _ _ _ b _ _ _ _ _ _ _ => b.getD 0 (.Pass ⟨0, 0, 0, 0⟩)
  | s => s
theorem in_BadEdge {K : PySem.W.Frag} {fI : Addr} {fd : FuncData} (F : Fun K "__init__" "BadEdge.__init__" (initS 4) fI fd) : ErInit K "BadEdge.__init__" "thing" (initS 4) fI := ⟨⟨_, F⟩, ⟨_, _, _, _, rfl⟩, fun _ _ _ _ _ _ _ _ => rfl, fun _ _ => by rfl, fun _ _ _ => rfl, fun _ _ _ => rfl, fun _ _ _ _ _ => by rfl, fun _ _ _ _ _ => by rfl, ⟨rfl, rfl, rfl⟩, by decide +kernel⟩
theorem in_BadTile {K : PySem.W.Frag} {fI : Addr} {fd : FuncData} (F : Fun K "__init__" "BadTile.__init__" (initS 3) fI fd) : ErInit K "BadTile.__init__" "thing" (initS 3) fI := ⟨⟨_, F⟩, ⟨_, _, _, _, rfl⟩, fun _ _ _ _ _ _ _ _ => rfl, fun _ _ => by rfl, fun _ _ _ => rfl, fun _ _ _ => rfl, fun _ _ _ _ _ => by rfl, fun _ _ _ _ _ => by rfl, ⟨rfl, rfl, rfl⟩, by decide +kernel⟩
structure Ct (K : PySem.W.Frag) (mg : Str → Option Value) : Prop where
  er_BadEdge : ∃ C fI, ErC K mg "BadEdge" "thing" C fI ∧ ErInit K "BadEdge.__init__" "thing" (initS 4) fI
  er_BadTile : ∃ C fI, ErC K mg "BadTile" "thing" C fI ∧ ErInit K "BadTile.__init__" "thing" (initS 3) fI
  g_BadEdge : ∃ C, mg "BadEdge" = some (.ref C)
  g_BadTile : ∃ C, mg "BadTile" = some (.ref C)
  g_FloorError : ∃ C, mg "FloorError" = some (.ref C)
  tab : ClsTab ⟨K, mg⟩ clsM
  isi : IsiTab ⟨K, mg⟩ clsI
  get_thing : GetTab ⟨K, mg⟩ knownE "thing"
  dig : Dig K
theorem vis__law_told : Vis (defScope (top 41)) "_law_call" := .inl rfl
abbrev ql__law_is_alone_right : Str := (envOfC "_law_is_alone_right" (defScope (top 42)) 0 0 .none).qual ++ "<lambda>"
abbrev ql__law_are_two_right : Str := (envOfC "_law_are_two_right" (defScope (top 43)) 0 0 .none).qual ++ "<lambda>"
abbrev sp__law_draw := spDraw
abbrev TyK (x : D) : Prop := (tyD x).isSome = true
def TyK1 (x : D) : Prop := TyK x ∧ ∀ xs, x = .tup xs → ∀ y ∈ xs, TyK y
theorem tyk_rp {n : Nat} {x : D} (h : rp n x = true) : TyK x := rp_ty h
theorem tyk1_rp {x : D} (h : rp 64 x = true) : TyK1 x := ⟨tyk_rp h, fun xs e y m => by
  subst e
  simp only [rp, rps_all, List.all_eq_true] at h
  exact tyk_rp (h y m)⟩
theorem tyk1_tri (a b c : Int) : TyK1 (tri a b c) := ⟨rfl, fun xs e y m => by
  cases e
  simp only [List.mem_cons, List.not_mem_nil, or_false] at m
  rcases m with rfl | rfl | rfl <;> rfl⟩
def sp_is_integer : DSp := fun _ ds Q _ => ∃ x, ds = [x] ∧ TyK x ∧ Q (.bl (isI x))
theorem isi_hs {W : WD} (x : D) (Qd : D → Prop) (h : TyK x) (q : Qd (.bl (isI x))) : sp_is_integer W [x] Qd fun _ => False := ⟨x, rfl, h, q⟩
def sp_raised : DSp := fun _ ds Q _ => ∃ f j, ds = [tup5 f, .int j] ∧ 0 ≤ j ∧ j ≤ 4 ∧ Q (tup5 (rz f j 1))
def sp__law_same : DSp := fun _ ds Q _ => ∃ x, ds = [x, x] ∧ Rok x ∧ Q (.bl true)
def sp_is_direction : DSp := fun _ ds Q _ => ∃ x, ds = [x] ∧ TyK x ∧ Q (.bl (isDir x))
def sp_is_five : DSp := fun _ ds Q _ => ∃ x, ds = [x] ∧ TyK1 x ∧ Q (.bl (isFive x))
def sp__law_pick : DSp := fun W ds Q _ => ∃ d l xs, W = some (d, l) ∧ (ds = [dkD d, .lst xs] ∨ ds = [dkD d, .tup xs]) ∧ 0 < xs.length ∧ xs.length < 2 ^ 62 ∧ ∀ x ∈ xs, Q x
def sp__law_integer : DSp := fun W ds Q _ => ∃ d l, ∃ n : Nat, W = some (d, l) ∧ ds = [dkD d, .int n] ∧ 1 ≤ n ∧ n ≤ 170 ∧ ∀ i, Sz (20 * n + 20) i → Q (.int i)
def sp_is_corner_five : DSp := fun _ ds Q _ => ∃ x, ds = [x] ∧ TyK1 x ∧ Q (.bl (isCor x))
/-! k16: tiles, edges, what fits -/
abbrev eg (f : Int → Int) (j : Int) : D := .tup [tup5 f, .int j]
abbrev tl (f : Int → Int) (r s : Int) : D := .tup [tup5 f, .int r, .int s]
def near (a b : Int) : Bool := decide ((a - b) % 5 = 1 ∨ (a - b) % 5 = 4)
def near2 (a b : Int) : Bool := decide ((a - b) % 5 = 1 ∨ (a - b) % 5 = 2)
/-- edges by number: foot, direction, the other direction -/
def ef (f : Int → Int) (r s : Int) : Nat → Int → Int
  | 0 => f
  | 1 => f
  | 2 => rz f s 1
  | _ => rz f r 1
def ej (r s : Int) : Nat → Int
  | 0 => r
  | 1 => s
  | 2 => r
  | _ => s
def eo (r s : Int) : Nat → Int
  | 0 => s
  | 1 => r
  | 2 => s
  | _ => r
def eu : Nat → Int
  | 0 => 1
  | 1 => 1
  | _ => 0
def lleft (r s : Int) (n : Nat) : Bool := near2 (eo r s n) (ej r s n) == decide (n < 2)
def lhand (j b u : Int) : Bool := decide (((if u = 1 then 2 * b else 2 * b + 5) - 2 * j) % 10 < 5)
def markL (k r s k' : Int) : Str := if k' = 2 then (if (decide (s - r = 1 ∨ s - r = 4)) = decide (k = 1) then "up" else "down") else "outer"
def inner (k r s : Int) : Str := if near r s = decide (k = 1) then "up" else "down"
def mkS (k r s : Int) (n : Nat) : Str := if decide (k = 1) = decide (n < 2) then "outer" else inner k r s
def sm5 (f g : Int → Int) : Bool := decide (f 0 = g 0 ∧ f 1 = g 1 ∧ f 2 = g 2 ∧ f 3 = g 3 ∧ f 4 = g 4)
def bd (f : Int → Int) (r s : Int) (n : Nat) : D := .tup [eg (ef f r s n) (ej r s n), .int (eo r s n), .int (eu n)]
abbrev four : List Nat := [0, 1, 2, 3]
def isTile : D → Bool
  | .tup [c, r, s] => isFive c && (isI r && (isI s && decide ((sumN c = 1 ∨ sumN c = 2) ∧ 0 ≤ nOf r ∧ nOf r < nOf s ∧ nOf s < 5)))
  | _ => false
def isEdge : D → Bool
  | .tup [c, j] => isCor c && isDir j
  | _ => false
structure TileD (x : D) (f : Int → Int) (r s : Int) : Prop where
  e : x = tl f r s
  k : sum5 f = 1 ∨ sum5 f = 2
  r0 : 0 ≤ r
  rs : r < s
  s4 : s ≤ 4
def sp_are_near : DSp := fun _ ds Q _ => ∃ a b, ds = [.int a, .int b] ∧ Q (.bl (near a b))
def sp_lies_left : DSp := fun _ ds Q _ => ∃ f r s, ∃ n : Nat, ds = [tl f r s, .int n] ∧ n < 4 ∧ Q (.bl (lleft r s n))
def sp__law_step : DSp := fun _ ds Q _ => ∃ f r m, ds = [tup5 f, .int r, .int m] ∧ 0 ≤ r ∧ r ≤ 4 ∧ Q (tup5 (rz f r m))
def sp__law_is_lefthand : DSp := fun _ ds Q _ => ∃ j b u, ds = [.int j, .int b, .int u] ∧ 0 ≤ j ∧ j ≤ 4 ∧ 0 ≤ b ∧ b ≤ 4 ∧ Q (.bl (lhand j b u))
def sp__law_mark : DSp := fun _ ds Q _ => ∃ f r s g j, ds = [tl f r s, eg g j] ∧ Q (.str (markL (sum5 f) r s (sum5 g)))
def sp__law_is_tile : DSp := fun _ ds Q _ => ∃ x, ds = [x] ∧ rp 64 x = true ∧ Q (.bl (isTile x))
def sp_is_tile_row : DSp := sp__law_is_tile
def sp_is_edge_row : DSp := fun _ ds Q _ => ∃ x, ds = [x] ∧ rp 64 x = true ∧ Q (.bl (isEdge x))
def sp__law_borders : DSp := fun _ ds Q _ => ∃ f r s, ds = [tl f r s] ∧ 0 ≤ r ∧ r ≤ 4 ∧ 0 ≤ s ∧ s ≤ 4 ∧ Q (.lst (four.map (bd f r s)))
/-- the parts of a tile -/
def fT : D → Int → Int
  | .tup (c :: _) => fOf c
  | _ => fun _ => 0
def rT : D → Int
  | .tup [_, r, _] => nOf r
  | _ => 0
def sT : D → Int
  | .tup [_, _, s] => nOf s
  | _ => 0
def isE (e : D) (f : Int → Int) (j : Int) : Bool := match e with
  | .tup [c, .int i] => isFive c && sm5 (fOf c) f && decide (i = j)
  | _ => false
/-- how a call ends -/
inductive Ot where
  | ok (d : D) | tile (x : D) | edge (x : D)
def outT : Ot → (D → Prop) → (Er → Prop) → Prop
  | .ok d, Q, _ => Q d
  | .tile x, _, R => R ⟨"BadTile", [("thing", x)]⟩
  | .edge x, _, R => R ⟨"BadEdge", [("thing", x)]⟩
def toldD : Ot → D
  | .ok d => .tup [.str "told", d]
  | .tile x => .tup [.str "tile", x, .bl false]
  | .edge x => .tup [.str "edge", x, .bl false]
def edgesD (f : Int → Int) (r s : Int) : D := .tup (four.map fun n => eg (ef f r s n) (ej r s n))
def marksD (k r s : Int) : D := .tup (four.map fun n => .str (mkS k r s n))
def cornersD (f : Int → Int) (r s : Int) : D := .tup [tup5 f, tup5 (rz f r 1), tup5 (rz f s 1), tup5 (rz (rz f r 1) s 1)]
def onT (x : D) (d : D) : Ot := if isTile x = true then .ok d else .tile x
def edgO (x : D) : Ot := onT x (edgesD (fT x) (rT x) (sT x))
def cornO (x : D) : Ot := onT x (cornersD (fT x) (rT x) (sT x))
def thickO (x : D) : Ot := onT x (.bl (near (rT x) (sT x)))
def lowO (x : D) : Ot := onT x (.bl (decide (sum5 (fT x) = 1)))
def marksO (x : D) : Ot := onT x (marksD (sum5 (fT x)) (rT x) (sT x))
def leftC (f : Int → Int) (r s : Int) (e : D) (n : Nat) : Option D := if isE e (ef f r s n) (ej r s n) = true then some (.bl (lleft r s n)) else none
def leftE (f : Int → Int) (r s : Int) (e : D) : Ot := match four.findSome? (leftC f r s e) with
  | some d => .ok d
  | none => .edge e
def leftO (x e : D) : Ot := if isTile x = true then leftE (fT x) (rT x) (sT x) e else .tile x
def same (f : Int → Int) (r s : Int) (g : Int → Int) (r' s' : Int) (n m : Nat) : Bool := sm5 (ef f r s n) (ef g r' s' m) && decide (ej r s n = ej r' s' m)
def meet (f : Int → Int) (r s : Int) (g : Int → Int) (r' s' : Int) (n m : Nat) : Bool := same f r s g r' s' n m && (lleft r s n != lleft r' s' m) && decide (mkS (sum5 f) r s n = mkS (sum5 g) r' s' m)
def fit (f : Int → Int) (r s : Int) (g : Int → Int) (r' s' : Int) : Bool := four.any fun n => four.any fun m => meet f r s g r' s' n m
def meetL (f : Int → Int) (r s : Int) (g : Int → Int) (r' s' : Int) (n m : Nat) : Bool := (lhand (ej r s n) (eo r s n) (eu n) != lhand (ej r s n) (eo r' s' m) (eu m)) && decide (markL (sum5 f) r s (sum5 (ef f r s n)) = markL (sum5 g) r' s' (sum5 (ef f r s n)))
def fitL (f : Int → Int) (r s : Int) (g : Int → Int) (r' s' : Int) : Bool := (four.findSome? fun n => four.findSome? fun m => if same f r s g r' s' n m = true then some (meetL f r s g r' s' n m) else none).getD false
def fitO (x y : D) : Ot := if isTile x = true then onT y (.bl (fit (fT x) (rT x) (sT x) (fT y) (rT y) (sT y))) else .tile x
def Tre : Nat → D → Prop
  | 0, x => ∃ i, x = .int i ∧ Sz 230 i
  | n + 1, x => (∃ i, x = .int i ∧ Sz 230 i) ∨ ∃ xs, x = .tup xs ∧ xs.length ≤ 5 ∧ ∀ y ∈ xs, Tre n y
abbrev Pk (x : D) : Prop := Pok 7 260 470000 x
def sp1 (o : D → Ot) : DSp := fun _ ds Q R => ∃ x, ds = [x] ∧ rp 64 x = true ∧ outT (o x) Q R
def sp_need_tile : DSp := sp1 fun x => onT x .non
def sp_corners_of : DSp := sp1 cornO
def sp_edges_of : DSp := sp1 edgO
def sp_is_thick : DSp := sp1 thickO
def sp_is_low : DSp := sp1 lowO
def sp_marks_of : DSp := sp1 marksO
def sp_is_left : DSp := fun _ ds Q R => ∃ x e, ds = [x, e] ∧ rp 63 x = true ∧ rp 63 e = true ∧ outT (leftO x e) Q R
def sp_does_fit : DSp := fun _ ds Q R => ∃ x y, ds = [x, y] ∧ rp 64 x = true ∧ rp 64 y = true ∧ outT (fitO x y) Q R
def sp__law_told : ASp := fun _ act Q => ∃ o, (∀ Qd R, outT o Qd R → act R Qd) ∧ Q (toldD o)
def sp__law_drawn : DSp := fun W ds Q _ => ∃ d l, W = some (d, l) ∧ ds = [dkD d] ∧ ∀ f r s, Szf 220 f → TileD (tl f r s) f r s → Q (tl f r s)
def sp__law_do_fit : DSp := fun _ ds Q _ => ∃ f r s g r' s', ds = [tl f r s, tl g r' s'] ∧ 0 ≤ r ∧ r ≤ 4 ∧ 0 ≤ s ∧ s ≤ 4 ∧ 0 ≤ r' ∧ r' ≤ 4 ∧ 0 ≤ s' ∧ s' ≤ 4 ∧ Q (.bl (fitL f r s g r' s'))
def sp__law_odd : DSp := fun W ds Q _ => ∃ d l x, W = some (d, l) ∧ ds = [dkD d, x] ∧ Tre 2 x ∧ ∀ y, Pok 5 260 250000 y → Q y
def sp__law_bent : Nat → DSp := fun n W ds Q _ => ∃ d l x, W = some (d, l) ∧ ds = [dkD d, x] ∧ n ≤ 2 ∧ Tre n x ∧ ∀ y, Pok (5 + n) 260 (250000 + n * 110000) y → Q y
def sp__law_maybe : DSp := fun W ds Q _ => ∃ d l x, W = some (d, l) ∧ ds = [dkD d, x] ∧ Tre 2 x ∧ ∀ y, Pk y → Q y
def sp__law_are_neighbours_right : DSp := fun W ds Q _ => ∃ d l f r s, W = some (d, l) ∧ ds = [tl f r s] ∧ TileD (tl f r s) f r s ∧ Szf 220 f ∧ Q (.bl true)
def sp__law_is_alone_right : DSp := fun W ds Q _ => ∃ d l x, W = some (d, l) ∧ ds = [x] ∧ Pk x ∧ Q (.bl true)
def sp__law_are_two_right : DSp := fun W ds Q _ => ∃ d l x y e, W = some (d, l) ∧ ds = [x, y, e] ∧ Pk x ∧ Pk y ∧ Pk e ∧ Q (.bl true)
def g_is_integer (W : WD) (R : Er → Prop) : GS :=
  (gRet (gAnd (gBlt isiD (gCons (gVar 0) (gCons (gC (.opq (.ty "int"))) gNil))) (gNot (gBlt isiD (gCons (gVar 0) (gCons (gC (.opq (.ty "bool"))) gNil))))))
def g_raised (W : WD) (R : Er → Prop) : GS :=
  (gSeq (gSetL 2 (gBltF listD (gCons (gVar 0) gNil)))
    (gSeq (gAugI 2 iaddD (gBin modD (gVar 1) (gC (.int 5))) (gC (.int 1)))
    (gRet (gBlt tupleD (gCons (gVarB 2) gNil)))))
def g_are_near (W : WD) (R : Er → Prop) : GS :=
  (gRet (gBin (inD false) (gBin modD (gBin subD (gVar 0) (gVar 1)) (gC (.int 5))) (gTup (gCons (gC (.int 1)) (gCons (gC (.int 4)) gNil)))))
def g_lies_left (W : WD) (R : Er → Prop) : GS :=
  (gSeq (gSetT [2, 3] (gIf (gB (gBin (inD false) (gVar 1) (gTup (gCons (gC (.int 0)) (gCons (gC (.int 2)) gNil))))) (gTup (gCons (gBin ixD (gVar 0) (gC (.int 1))) (gCons (gBin ixD (gVar 0) (gC (.int 2))) gNil))) (gTup (gCons (gBin ixD (gVar 0) (gC (.int 2))) (gCons (gBin ixD (gVar 0) (gC (.int 1))) gNil)))))
    (gSeq (gSet 4 (gBin (inD false) (gBin modD (gBin subD (gVar 3) (gVar 2)) (gC (.int 5))) (gTup (gCons (gC (.int 1)) (gCons (gC (.int 2)) gNil)))))
    (gRet (gBin eqD (gVar 4) (gBin ltD (gVar 1) (gC (.int 2)))))))
def g__law_same (W : WD) (R : Er → Prop) : GS :=
  (gRet (gBin eqD (gBlt reprB (gCons (gVar 0) gNil)) (gBlt reprB (gCons (gVar 1) gNil))))
def g__law_step (W : WD) (R : Er → Prop) : GS :=
  (gRet (gBin addD (gBin addD (gSl slD (gVar 0) gNoPart (gPart (gVar 1))) (gTup (gCons (gBin addD (gBin ixD (gVar 0) (gVar 1)) (gVar 2)) gNil))) (gSl slD (gVar 0) (gPart (gBin addD (gVar 1) (gC (.int 1)))) gNoPart)))
def g__law_is_lefthand (W : WD) (R : Er → Prop) : GS :=
  (gSeq (gSet 3 (gIf (gB (gBin eqD (gVar 2) (gC (.int 1)))) (gBin mulD (gC (.int 2)) (gVar 1)) (gBin addD (gBin mulD (gC (.int 2)) (gVar 1)) (gC (.int 5)))))
    (gRet (gBin ltD (gBin modD (gBlt intB (gCons (gBin subD (gVar 3) (gBin mulD (gC (.int 2)) (gVar 0))) gNil)) (gC (.int 10))) (gC (.int 5)))))
def g__law_mark (W : WD) (R : Er → Prop) : GS :=
  (gSeq (gIfS (gB (gBin neD (gBlt sumD (gCons (gBin ixD (gVar 1) (gC (.int 0))) gNil)) (gC (.int 2)))) (gRet (gC (.str "outer"))) gSkip)
    (gRet (gIf (gB (gBin eqD (gBin (inD false) (gBin subD (gBin ixD (gVar 0) (gC (.int 2))) (gBin ixD (gVar 0) (gC (.int 1)))) (gTup (gCons (gC (.int 1)) (gCons (gC (.int 4)) gNil)))) (gBin eqD (gBlt sumD (gCons (gBin ixD (gVar 0) (gC (.int 0))) gNil)) (gC (.int 1))))) (gC (.str "up")) (gC (.str "down")))))
def g__law_is_tile (W : WD) (R : Er → Prop) : GS :=
  (gSeq (gIfS (gOrT (gNotT (gTru (gBlt isiD (gCons (gVar 0) (gCons (gC (.opq (.ty "tuple"))) gNil))))) (gOrT (gB (gBin neD (gBlt lenD (gCons (gVar 0) gNil)) (gC (.int 3)))) (gOrT (gNotT (gTru (gBlt isiD (gCons (gBin ixD (gVar 0) (gC (.int 0))) (gCons (gC (.opq (.ty "tuple"))) gNil))))) (gB (gBin neD (gBlt lenD (gCons (gBin ixD (gVar 0) (gC (.int 0))) gNil)) (gC (.int 5))))))) (gRet (gC (.bl false))) gSkip)
    (gSeq (gIfS (gB (gBin neD (gFrz (gLc (gIter (gBin addD (gBin ixD (gVar 0) (gC (.int 0))) (gSl slD (gVar 0) (gPart (gC (.int 1))) gNoPart))) (ggName 1) (gOrT (gNotT (gTru (gBlt isiD (gCons (gVar 1) (gCons (gC (.opq (.ty "int"))) gNil))))) (gTru (gBlt isiD (gCons (gVar 1) (gCons (gC (.opq (.ty "bool"))) gNil))))) (gC (.int 1)) [1])) (gFrz (gLst gNil)))) (gRet (gC (.bl false))) gSkip)
    (gRet (gAnd (gBin (inD false) (gBlt sumD (gCons (gBin ixD (gVar 0) (gC (.int 0))) gNil)) (gTup (gCons (gC (.int 1)) (gCons (gC (.int 2)) gNil)))) (gAnd (gBin geD (gBin ixD (gVar 0) (gC (.int 1))) (gC (.int 0))) (gAnd (gBin ltD (gBin ixD (gVar 0) (gC (.int 1))) (gBin ixD (gVar 0) (gC (.int 2)))) (gBin ltD (gBin ixD (gVar 0) (gC (.int 2))) (gC (.int 5)))))))))
def g__law_told (W : WD) (f0 : Addr) (act : ND.Act) : GS :=
  (gSeq (gTry clsM 3 (fun _ => False) (fun R => (gSet 1 (gAct f0 act R))) [⟨"BadTile", some 2, fun er a => (gRet (gTup (gCons (gC (.str "tile")) (gCons (gErF knownE "thing" 2 er a) (gCons (gOr (gIsE clsI "BadEdge" 2 er a) (gOr (gIsE clsI "BadCorner" 2 er a) (gNot (gIsE clsI "FloorError" 2 er a)))) gNil)))))⟩, ⟨"BadEdge", some 2, fun er a => (gRet (gTup (gCons (gC (.str "edge")) (gCons (gErF knownE "thing" 2 er a) (gCons (gOr (gIsE clsI "BadTile" 2 er a) (gOr (gIsE clsI "BadCorner" 2 er a) (gNot (gIsE clsI "FloorError" 2 er a)))) gNil)))))⟩, ⟨"FloorError", none, fun er a => (gRet (gTup (gCons (gC (.str "other")) (gCons (gC .non) (gCons (gC (.bl true)) gNil)))))⟩])
    (gRet (gTup (gCons (gC (.str "told")) (gCons (gVar 1) gNil)))))
def g_is_direction (W : WD) (R : Er → Prop) : GS :=
  (gRet (gAnd (gCall sp_is_integer W R (gCons (gVar 0) gNil)) (gChain leD leD (gC (.int 0)) (gVar 0) (gC (.int 4)))))
def g_is_five (W : WD) (R : Er → Prop) : GS :=
  (gRet (gAnd (gBlt isiD (gCons (gVar 0) (gCons (gC (.opq (.ty "tuple"))) gNil))) (gAnd (gBin eqD (gBlt lenD (gCons (gVar 0) gNil)) (gC (.int 5))) (gBlt allD (gCons (gFrz (gLc (gIter (gVar 0)) (ggName 1) gYes (gCall sp_is_integer W (fun _ => False) (gCons (gVar 1) gNil)) [1])) gNil)))))
def g__law_pick (W : WD) (R : Er → Prop) : GS :=
  (gRet (gBin ixD (gVar 1) (gCall sp__law_draw W R (gCons (gVar 0) (gCons (gBlt lenD (gCons (gVar 1) gNil)) gNil)))))
def g__law_integer (W : WD) (R : Er → Prop) : GS :=
  (gSeq (gPar [2, 3, 4] (gCons (gCall sp__law_draw W R (gCons (gVar 0) (gCons (gC (.int 9)) gNil))) (gCons (gBin subD (gC (.int 1)) (gBin mulD (gC (.int 2)) (gCall sp__law_draw W R (gCons (gVar 0) (gCons (gC (.int 2)) gNil))))) (gCons (gC (.int 0)) gNil))))
    (gSeq (gIfS (gB (gBin ltD (gVar 2) (gC (.int 6)))) (gRet (gBin mulD (gVar 3) (gCall sp__law_draw W R (gCons (gVar 0) (gCons (gBin ixD (gTup (gCons (gC (.int 1)) (gCons (gC (.int 3)) (gCons (gC (.int 5)) (gCons (gC (.int 13)) (gCons (gC (.int 100)) (gCons (gC (.int 1000)) gNil))))))) (gVar 2)) gNil))))) gSkip)
    (gSeq (gIfS (gB (gBin eqD (gVar 2) (gC (.int 6)))) (gRet (gBin mulD (gVar 3) (gBin subD (gBlt intB (gCons (gBin repS (gC (.str "9")) (gBin mulD (gC (.int 6)) (gVar 1))) gNil)) (gCall sp__law_draw W R (gCons (gVar 0) (gCons (gC (.int 50)) gNil)))))) gSkip)
    (gSeq (gFor (gRng1 (gCons (gBin addD (gC (.int 1)) (gCall sp__law_draw W R (gCons (gVar 0) (gCons (gVar 1) gNil)))) gNil)) (ggName 5) (gSet 4 (gBin addD (gBin mulD (gVar 4) (gBin powD (gC (.int 10)) (gC (.int 6)))) (gCall sp__law_draw W R (gCons (gVar 0) (gCons (gBin powD (gC (.int 10)) (gC (.int 6))) gNil))))))
    (gRet (gBin mulD (gVar 3) (gVar 4)))))))
def g__law_borders (W : WD) (R : Er → Prop) : GS :=
  (gSeq (gSetT [1, 2, 3] (gVar 0))
    (gRet (gFrz (gLst (gCons (gTup (gCons (gTup (gCons (gVar 1) (gCons (gVar 2) gNil))) (gCons (gVar 3) (gCons (gC (.int 1)) gNil)))) (gCons (gTup (gCons (gTup (gCons (gVar 1) (gCons (gVar 3) gNil))) (gCons (gVar 2) (gCons (gC (.int 1)) gNil)))) (gCons (gTup (gCons (gTup (gCons (gCall sp__law_step W R (gCons (gVar 1) (gCons (gVar 3) (gCons (gC (.int 1)) gNil)))) (gCons (gVar 2) gNil))) (gCons (gVar 3) (gCons (gC (.int 0)) gNil)))) (gCons (gTup (gCons (gTup (gCons (gCall sp__law_step W R (gCons (gVar 1) (gCons (gVar 2) (gCons (gC (.int 1)) gNil)))) (gCons (gVar 3) gNil))) (gCons (gVar 2) (gCons (gC (.int 0)) gNil)))) gNil))))))))
def g_is_corner_five (W : WD) (R : Er → Prop) : GS :=
  (gRet (gAnd (gCall sp_is_five W R (gCons (gVar 0) gNil)) (gChain leD leD (gC (.int 1)) (gBlt sumD (gCons (gVar 0) gNil)) (gC (.int 4)))))
def g__law_drawn (W : WD) (R : Er → Prop) : GS :=
  (gSeq (gParL3 1 2 3 (gLc (gRng1 (gCons (gC (.int 5)) gNil)) (ggName 5) gYes (gCall sp__law_integer W (fun _ => False) (gCons (gVar 0) (gCons (gC (.int 9)) gNil))) [5]) (gCall sp__law_draw W R (gCons (gVar 0) (gCons (gC (.int 5)) gNil))) (gCall sp__law_draw W R (gCons (gVar 0) (gCons (gC (.int 5)) gNil))))
    (gSeq (gSetI 1 (gBin subD (gBin addD (gBin addD (gBin ixD (gVarB 1) (gVar 2)) (gC (.int 1))) (gCall sp__law_draw W R (gCons (gVar 0) (gCons (gC (.int 2)) gNil)))) (gBlt sumD (gCons (gVarB 1) gNil))) (gVar 2))
    (gSeq (gSet 4 (gBin modD (gBlt intB (gCons (gBin addD (gBin addD (gVar 3) (gC (.int 1))) (gCall sp__law_draw W R (gCons (gVar 0) (gCons (gC (.int 4)) gNil)))) gNil)) (gC (.int 5))))
    (gRet (gTup (gCons (gBlt tupleD (gCons (gVarB 1) gNil)) (gCons (gBlt min2D (gCons (gVar 3) (gCons (gVar 4) gNil))) (gCons (gBlt max2D (gCons (gVar 3) (gCons (gVar 4) gNil))) gNil))))))))
def g__law_do_fit (W : WD) (R : Er → Prop) : GS :=
  (gSeq (gSet 2 (gCall sp__law_borders W R (gCons (gVar 1) gNil)))
    (gSeq (gFor (gIter (gCall sp__law_borders W R (gCons (gVar 0) gNil))) (ggTup [3, 4, 5]) (gFor (gIter (gVar 2)) (ggName 6) (gIfS (gB (gBin eqD (gBin ixD (gVar 6) (gC (.int 0))) (gVar 3))) (gSeq (gPar [7, 8] (gCons (gCall sp__law_is_lefthand W R (gCons (gBin ixD (gVar 3) (gC (.int 1))) (gCons (gVar 4) (gCons (gVar 5) gNil)))) (gCons (gCall sp__law_is_lefthand W R (gCons (gBin ixD (gVar 3) (gC (.int 1))) (gCons (gBin ixD (gVar 6) (gC (.int 1))) (gCons (gBin ixD (gVar 6) (gC (.int 2))) gNil)))) gNil)))
    (gRet (gAnd (gBin neD (gVar 7) (gVar 8)) (gBin eqD (gCall sp__law_mark W R (gCons (gVar 0) (gCons (gVar 3) gNil))) (gCall sp__law_mark W R (gCons (gVar 1) (gCons (gVar 3) gNil))))))) gSkip)))
    (gRet (gC (.bl false)))))
def g__law_odd (W : WD) (R : Er → Prop) : GS :=
  (gSeq (gSet 2 (gFrz (gLst (gCons (gC .non) (gCons (gC (.bl true)) (gCons (gC (.bl false)) (gCons (gC (.int 0)) (gCons (gC (.int 1)) (gCons (gUn negD (gC (.int 1))) (gCons (gC (.int 4)) (gCons (gC (.int 5)) (gCons (gC (.str "")) (gCons (gC (.str "0")) (gCons (gTup gNil) (gCons (gTup (gCons (gTup gNil) gNil)) (gCons (gFrz (gLst gNil)) (gCons (gC (.dic [])) (gCons (gTup (gCons (gC (.int 0)) (gCons (gC (.int 0)) (gCons (gC (.int 1)) (gCons (gC (.int 0)) (gCons (gC (.int 1)) gNil)))))) (gCons (gTup (gCons (gC (.int 1)) (gCons (gC (.int 0)) (gCons (gC (.int 0)) (gCons (gC (.int 0)) (gCons (gC (.int 0)) gNil)))))) (gCons (gTup (gCons (gC (.int 0)) (gCons (gC (.int 0)) (gCons (gC (.int 0)) (gCons (gC (.int 0)) (gCons (gC (.int 0)) gNil)))))) gNil))))))))))))))))))))
    (gSeq (gSet 2 (gBin addD (gVar 2) (gFrz (gLst (gCons (gC (.str "a\n~")) (gCons (gTup (gCons (gC (.int 0)) (gCons (gC (.int 1)) gNil))) (gCons (gTup (gCons (gTup (gCons (gC (.int 0)) (gCons (gC (.int 0)) (gCons (gC (.int 1)) (gCons (gC (.int 0)) (gCons (gC (.int 1)) gNil)))))) (gCons (gC (.int 0)) gNil))) (gCons (gTup (gCons (gTup (gCons (gC (.int 0)) (gCons (gC (.int 0)) (gCons (gC (.int 1)) (gCons (gC (.int 0)) (gCons (gC (.int 0)) gNil)))))) (gCons (gC (.int 1)) (gCons (gC (.int 4)) gNil)))) (gCons (gTup (gCons (gTup (gCons (gC (.int 0)) (gCons (gC (.int 0)) (gCons (gC (.int 1)) (gCons (gC (.int 0)) (gCons (gC (.int 0)) gNil)))))) (gCons (gC (.int 4)) (gCons (gC (.int 1)) gNil)))) (gCons (gTup (gCons (gTup (gCons (gC (.int 0)) (gCons (gC (.int 0)) (gCons (gC (.int 2)) (gCons (gC (.int 0)) (gCons (gC (.int 1)) gNil)))))) (gCons (gC (.int 0)) (gCons (gC (.int 1)) gNil)))) gNil))))))))))
    (gSeq (gSet 2 (gBin addD (gVar 2) (gFrz (gLst (gCons (gTup (gCons (gTup (gCons (gC (.int 1)) (gCons (gC (.int 0)) (gCons (gC (.int 0)) (gCons (gC (.int 0)) (gCons (gC (.int 0)) gNil)))))) (gCons (gC (.int 2)) (gCons (gC (.int 2)) gNil)))) (gCons (gTup (gCons (gTup (gCons (gC (.bl true)) (gCons (gC (.int 0)) (gCons (gC (.int 0)) (gCons (gC (.int 0)) (gCons (gC (.int 0)) gNil)))))) (gCons (gC (.int 0)) (gCons (gC (.int 1)) gNil)))) (gCons (gTup (gCons (gTup (gCons (gC (.int 1)) (gCons (gC (.int 0)) (gCons (gC (.int 0)) (gCons (gC (.int 0)) (gCons (gC (.int 0)) gNil)))))) (gCons (gC (.int 0)) (gCons (gC (.bl true)) gNil)))) (gCons (gDic1 (.inr "k") (gTup (gCons (gC (.int 0)) (gCons (gC (.int 1)) gNil)))) (gCons (gTup (gCons (gC (.int 2)) (gCons (gC (.int 0)) (gCons (gC (.int 1)) gNil)))) (gCons (gUn negD (gC (.int 3))) gNil))))))))))
    (gSeq (gIfS (gTru (gBlt isiD (gCons (gVar 1) (gCons (gC (.opq (.ty "tuple"))) gNil)))) (gSet 2 (gBin addD (gVar 2) (gBin mulD (gFrz (gLst (gCons (gFrz (gBltF listD (gCons (gVar 1) gNil))) (gCons (gBin addD (gVar 1) (gTup (gCons (gC (.int 0)) gNil))) (gCons (gSl slD (gVar 1) (gPart (gC (.int 1))) gNoPart) (gCons (gSl slD (gVar 1) gNoPart (gPart (gUn negD (gC (.int 1))))) (gCons (gUn revD (gVar 1)) (gCons (gTup (gCons (gVar 1) gNil)) (gCons (gBin addD (gSl slD (gVar 1) gNoPart (gPart (gC (.int 1)))) (gVar 1)) (gCons (gBin addD (gSl slD (gVar 1) (gPart (gC (.int 1))) gNoPart) (gSl slD (gVar 1) gNoPart (gPart (gC (.int 1))))) gNil)))))))))) (gC (.int 3))))) (gIfS (gTru (gBlt isiD (gCons (gVar 1) (gCons (gC (.opq (.ty "int"))) gNil)))) (gSet 2 (gBin addD (gVar 2) (gBin mulD (gFrz (gLst (gCons (gBin addD (gVar 1) (gC (.int 1))) (gCons (gBin subD (gVar 1) (gC (.int 1))) (gCons (gUn negD (gVar 1)) (gCons (gBin eqD (gVar 1) (gC (.int 1))) (gCons (gFrz (gLst (gCons (gVar 1) gNil))) (gCons (gTup (gCons (gVar 1) gNil)) (gCons (gBlt strI (gCons (gVar 1) gNil)) (gCons (gBin eqD (gVar 1) (gC (.int 0))) gNil)))))))))) (gC (.int 4))))) gSkip))
    (gRet (gCall sp__law_pick W R (gCons (gVar 0) (gCons (gVar 2) gNil))))))))
def g_is_tile_row (W : WD) (R : Er → Prop) : GS :=
  (gSeq (gIfS (gOrT (gNotT (gTru (gBlt isiD (gCons (gVar 0) (gCons (gC (.opq (.ty "tuple"))) gNil))))) (gOrT (gB (gBin neD (gBlt lenD (gCons (gVar 0) gNil)) (gC (.int 3)))) (gNotT (gTru (gCall sp_is_corner_five W R (gCons (gBin ixD (gVar 0) (gC (.int 0))) gNil)))))) (gRet (gC (.bl false))) gSkip)
    (gRet (gAnd (gBin leD (gBlt sumD (gCons (gBin ixD (gVar 0) (gC (.int 0))) gNil)) (gC (.int 2))) (gAnd (gCall sp_is_direction W R (gCons (gBin ixD (gVar 0) (gC (.int 1))) gNil)) (gAnd (gCall sp_is_direction W R (gCons (gBin ixD (gVar 0) (gC (.int 2))) gNil)) (gBin ltD (gBin ixD (gVar 0) (gC (.int 1))) (gBin ixD (gVar 0) (gC (.int 2)))))))))
def g_is_edge_row (W : WD) (R : Er → Prop) : GS :=
  (gSeq (gIfS (gOrT (gNotT (gTru (gBlt isiD (gCons (gVar 0) (gCons (gC (.opq (.ty "tuple"))) gNil))))) (gB (gBin neD (gBlt lenD (gCons (gVar 0) gNil)) (gC (.int 2))))) (gRet (gC (.bl false))) gSkip)
    (gRet (gAnd (gCall sp_is_corner_five W R (gCons (gBin ixD (gVar 0) (gC (.int 0))) gNil)) (gCall sp_is_direction W R (gCons (gBin ixD (gVar 0) (gC (.int 1))) gNil)))))
def g_need_tile (W : WD) (R : Er → Prop) : GS :=
  (gIfS (gNotT (gTru (gCall sp_is_tile_row W R (gCons (gVar 0) gNil)))) (gRaise "BadTile" "thing" (gVar 0) R) gSkip)
def g_corners_of (W : WD) (R : Er → Prop) : GS :=
  (gSeq (gDrop (gCall sp_need_tile W R (gCons (gVar 0) gNil)))
    (gSeq (gSetT [1, 2, 3] (gVar 0))
    (gSeq (gSet 4 (gCall sp_raised W R (gCons (gVar 1) (gCons (gVar 2) gNil))))
    (gRet (gTup (gCons (gVar 1) (gCons (gVar 4) (gCons (gCall sp_raised W R (gCons (gVar 1) (gCons (gVar 3) gNil))) (gCons (gCall sp_raised W R (gCons (gVar 4) (gCons (gVar 3) gNil))) gNil)))))))))
def g_edges_of (W : WD) (R : Er → Prop) : GS :=
  (gSeq (gDrop (gCall sp_need_tile W R (gCons (gVar 0) gNil)))
    (gSeq (gSetT [1, 2, 3] (gVar 0))
    (gRet (gTup (gCons (gTup (gCons (gVar 1) (gCons (gVar 2) gNil))) (gCons (gTup (gCons (gVar 1) (gCons (gVar 3) gNil))) (gCons (gTup (gCons (gCall sp_raised W R (gCons (gVar 1) (gCons (gVar 3) gNil))) (gCons (gVar 2) gNil))) (gCons (gTup (gCons (gCall sp_raised W R (gCons (gVar 1) (gCons (gVar 2) gNil))) (gCons (gVar 3) gNil))) gNil))))))))
def g_is_thick (W : WD) (R : Er → Prop) : GS :=
  (gSeq (gDrop (gCall sp_need_tile W R (gCons (gVar 0) gNil)))
    (gRet (gCall sp_are_near W R (gCons (gBin ixD (gVar 0) (gC (.int 1))) (gCons (gBin ixD (gVar 0) (gC (.int 2))) gNil)))))
def g_is_low (W : WD) (R : Er → Prop) : GS :=
  (gSeq (gDrop (gCall sp_need_tile W R (gCons (gVar 0) gNil)))
    (gRet (gBin eqD (gBlt sumD (gCons (gBin ixD (gVar 0) (gC (.int 0))) gNil)) (gC (.int 1)))))
def g__law_bent (spR : DSp) (W : WD) (R : Er → Prop) : GS :=
  (gSeq (gIfS (gOrT (gNotT (gTru (gBlt isiD (gCons (gVar 1) (gCons (gC (.opq (.ty "tuple"))) gNil))))) (gOrT (gB (gBin eqD (gVar 1) (gTup gNil))) (gB (gBin eqD (gCall sp__law_draw W R (gCons (gVar 0) (gCons (gC (.int 4)) gNil))) (gC (.int 0)))))) (gRet (gCall sp__law_odd W R (gCons (gVar 0) (gCons (gVar 1) gNil)))) gSkip)
    (gSeq (gSet 2 (gCall sp__law_draw W R (gCons (gVar 0) (gCons (gBlt lenD (gCons (gVar 1) gNil)) gNil))))
    (gRet (gBin addD (gBin addD (gSl slD (gVar 1) gNoPart (gPart (gVar 2))) (gTup (gCons (gCall spR W R (gCons (gVar 0) (gCons (gBin ixD (gVar 1) (gVar 2)) gNil))) gNil))) (gSl slD (gVar 1) (gPart (gBin addD (gVar 2) (gC (.int 1)))) gNoPart)))))
def g_marks_of (W : WD) (R : Er → Prop) : GS :=
  (gSeq (gSet 1 (gIf (gB (gBin eqD (gCall sp_is_thick W R (gCons (gVar 0) gNil)) (gCall sp_is_low W R (gCons (gVar 0) gNil)))) (gC (.str "up")) (gC (.str "down"))))
    (gSeq (gIfS (gTru (gCall sp_is_low W R (gCons (gVar 0) gNil))) (gRet (gTup (gCons (gC (.str "outer")) (gCons (gC (.str "outer")) (gCons (gVar 1) (gCons (gVar 1) gNil)))))) gSkip)
    (gRet (gTup (gCons (gVar 1) (gCons (gVar 1) (gCons (gC (.str "outer")) (gCons (gC (.str "outer")) gNil))))))))
def g_is_left (W : WD) (R : Er → Prop) : GS :=
  (gSeq (gSet 2 (gCall sp_edges_of W R (gCons (gVar 0) gNil)))
    (gSeq (gFor (gRng1 (gCons (gC (.int 4)) gNil)) (ggName 3) (gIfS (gAndT (gB (gBin eqA (gBin ixD (gVar 2) (gVar 3)) (gVar 1))) (gTru (gCall sp_is_edge_row W R (gCons (gVar 1) gNil)))) (gRet (gCall sp_lies_left W R (gCons (gVar 0) (gCons (gVar 3) gNil)))) gSkip))
    (gRaise "BadEdge" "thing" (gVar 1) R)))
def g__law_maybe (W : WD) (R : Er → Prop) : GS :=
  (gRet (gIf (gB (gBin eqD (gCall sp__law_draw W R (gCons (gVar 0) (gCons (gC (.int 3)) gNil))) (gC (.int 0)))) (gCall (sp__law_bent 2) W R (gCons (gVar 0) (gCons (gVar 1) gNil))) (gVar 1)))
def g_does_fit (W : WD) (R : Er → Prop) : GS :=
  (gSeq (gPar [2, 3] (gCons (gCall sp_edges_of W R (gCons (gVar 0) gNil)) (gCons (gCall sp_edges_of W R (gCons (gVar 1) gNil)) gNil)))
    (gSeq (gFor (gRng1 (gCons (gC (.int 4)) gNil)) (ggName 4) (gFor (gRng1 (gCons (gC (.int 4)) gNil)) (ggName 5) (gIfS (gAndT (gB (gBin eqD (gBin ixD (gVar 2) (gVar 4)) (gBin ixD (gVar 3) (gVar 5)))) (gB (gBin neD (gCall sp_lies_left W R (gCons (gVar 0) (gCons (gVar 4) gNil))) (gCall sp_lies_left W R (gCons (gVar 1) (gCons (gVar 5) gNil)))))) (gIfS (gB (gBin eqD (gBin ixD (gCall sp_marks_of W R (gCons (gVar 0) gNil)) (gVar 4)) (gBin ixD (gCall sp_marks_of W R (gCons (gVar 1) gNil)) (gVar 5)))) (gRet (gC (.bl true))) gSkip) gSkip)))
    (gRet (gC (.bl false)))))
def g__law_are_neighbours_right (W : WD) (R : Er → Prop) : GS :=
  (gSeq (gFor (gIter (gCall sp__law_borders W R (gCons (gVar 0) gNil))) (ggTup [1, 2, 3]) (gSeq (gIfS (gNotT (gTru (gCall sp__law_same W R (gCons (gCall sp_is_left W R (gCons (gVar 0) (gCons (gVar 1) gNil))) (gCons (gCall sp__law_is_lefthand W R (gCons (gBin ixD (gVar 1) (gC (.int 1))) (gCons (gVar 2) (gCons (gVar 3) gNil)))) gNil))))) (gRet (gC (.bl false))) gSkip)
    (gFor (gIter (gFrz (gLc (gRng1 (gCons (gC (.int 5)) gNil)) (ggName 4) (gB (gBin neD (gVar 4) (gBin ixD (gVar 1) (gC (.int 1))))) (gVar 4) [4]))) (ggName 4) (gFor (gIter (gTup (gCons (gC (.int 0)) (gCons (gUn negD (gC (.int 1))) gNil)))) (ggName 5) (gSeq (gSet 6 (gCall sp__law_step W R (gCons (gBin ixD (gVar 1) (gC (.int 0))) (gCons (gVar 4) (gCons (gVar 5) gNil)))))
    (gIfS (gB (gBin (inD false) (gBlt sumD (gCons (gVar 6) gNil)) (gTup (gCons (gC (.int 1)) (gCons (gC (.int 2)) gNil))))) (gSeq (gSet 7 (gTup (gCons (gVar 6) (gCons (gBlt min2D (gCons (gBin ixD (gVar 1) (gC (.int 1))) (gCons (gVar 4) gNil))) (gCons (gBlt max2D (gCons (gBin ixD (gVar 1) (gC (.int 1))) (gCons (gVar 4) gNil))) gNil)))))
    (gSeq (gSet 8 (gAnd (gBin neD (gVar 7) (gVar 0)) (gCall sp__law_do_fit W R (gCons (gVar 0) (gCons (gVar 7) gNil)))))
    (gIfS (gNotT (gTru (gCall sp__law_same W R (gCons (gTup (gCons (gCall sp_does_fit W R (gCons (gVar 0) (gCons (gVar 7) gNil))) (gCons (gCall sp_does_fit W R (gCons (gVar 7) (gCons (gVar 0) gNil))) gNil))) (gCons (gTup (gCons (gVar 8) (gCons (gVar 8) gNil))) gNil))))) (gRet (gC (.bl false))) gSkip))) gSkip))))))
    (gRet (gC (.bl true))))
def g__law_is_alone_right (W : WD) (R : Er → Prop) : GS :=
  (gSeq (gIfS (gNotT (gTru (gCall sp__law_same W R (gCons (gTup (gCons (gCall sp_is_tile_row W R (gCons (gVar 0) gNil)) (gCons (gCallK sp_is_tile_row 0 1 [0] W R gNil (gCons (gVar 0) gNil)) gNil))) (gCons (gTup (gCons (gCall sp__law_is_tile W R (gCons (gVar 0) gNil)) (gCons (gCall sp__law_is_tile W R (gCons (gVar 0) gNil)) gNil))) gNil))))) (gRet (gC (.bl false))) gSkip)
    (gSeq (gSetL 1 (gBinF repF (gFrz (gLst (gCons (gTup (gCons (gC (.str "tile")) (gCons (gVar 0) (gCons (gC (.bl false)) gNil)))) gNil))) (gC (.int 5))))
    (gSeq (gIfS (gTru (gCall sp__law_is_tile W R (gCons (gVar 0) gNil))) (gSeq (gSetT [3, 4, 5] (gVar 0))
    (gSeq (gSet 6 (gBlt tupleD (gCons (gFrz (gLc (gIter (gCall sp__law_borders W R (gCons (gVar 0) gNil))) (ggName 8) gYes (gBin ixD (gVar 8) (gC (.int 0))) [8])) gNil)))
    (gSeq (gSet 7 (gTup (gCons (gVar 3) (gCons (gCall sp__law_step W R (gCons (gVar 3) (gCons (gVar 4) (gCons (gC (.int 1)) gNil)))) (gCons (gCall sp__law_step W R (gCons (gVar 3) (gCons (gVar 5) (gCons (gC (.int 1)) gNil)))) (gCons (gCall sp__law_step W R (gCons (gCall sp__law_step W R (gCons (gVar 3) (gCons (gVar 4) (gCons (gC (.int 1)) gNil)))) (gCons (gVar 5) (gCons (gC (.int 1)) gNil)))) gNil))))))
    (gSeq (gSetL 1 (gLst (gCons (gTup (gCons (gC (.str "told")) (gCons (gVar 7) gNil))) (gCons (gTup (gCons (gC (.str "told")) (gCons (gVar 6) gNil))) (gCons (gTup (gCons (gC (.str "told")) (gCons (gBin (inD false) (gBin subD (gVar 5) (gVar 4)) (gTup (gCons (gC (.int 1)) (gCons (gC (.int 4)) gNil)))) gNil))) (gCons (gTup (gCons (gC (.str "told")) (gCons (gBin eqD (gBlt sumD (gCons (gVar 3) gNil)) (gC (.int 1))) gNil))) gNil))))))
    (gApp 1 (gTup (gCons (gC (.str "told")) (gCons (gBlt tupleD (gCons (gFrz (gLc (gIter (gVar 6)) (ggName 9) gYes (gCall sp__law_mark W (fun _ => False) (gCons (gVar 0) (gCons (gVar 9) gNil))) [9])) gNil)) gNil)))))))) gSkip)
    (gSeq (gSetL 2 (gLst (gCons (gLam sp__law_told W (fun R => (gCall sp_corners_of W R (gCons (gVar 0) gNil)))) gNil)))
    (gSeq (gApp 2 (gLam sp__law_told W (fun R => (gCall sp_edges_of W R (gCons (gVar 0) gNil)))))
    (gSeq (gApp 2 (gLam sp__law_told W (fun R => (gCall sp_is_thick W R (gCons (gVar 0) gNil)))))
    (gSeq (gApp 2 (gLam sp__law_told W (fun R => (gCall sp_is_low W R (gCons (gVar 0) gNil)))))
    (gSeq (gApp 2 (gLam sp__law_told W (fun R => (gCall sp_marks_of W R (gCons (gVar 0) gNil)))))
    (gSeq (gApp 2 (gLam sp__law_told W (fun R => (gCallK sp_corners_of 0 1 [0] W R gNil (gCons (gVar 0) gNil)))))
    (gSeq (gApp 2 (gLam sp__law_told W (fun R => (gCallK sp_edges_of 0 1 [0] W R gNil (gCons (gVar 0) gNil)))))
    (gSeq (gApp 2 (gLam sp__law_told W (fun R => (gCallK sp_is_thick 0 1 [0] W R gNil (gCons (gVar 0) gNil)))))
    (gSeq (gApp 2 (gLam sp__law_told W (fun R => (gCallK sp_is_low 0 1 [0] W R gNil (gCons (gVar 0) gNil)))))
    (gSeq (gApp 2 (gLam sp__law_told W (fun R => (gCallK sp_marks_of 0 1 [0] W R gNil (gCons (gVar 0) gNil)))))
    (gFz 2 (gRet (gCall sp__law_same W R (gCons (gVar 2) (gCons (gBin addD (gVarB 1) (gVarB 1)) gNil))))))))))))))))))
def g__law_are_two_right (W : WD) (R : Er → Prop) : GS :=
  (gSeq (gIfS (gNotT (gTru (gCall sp__law_is_tile W R (gCons (gVar 0) gNil)))) (gPar [4, 5] (gCons (gTup (gCons (gC (.str "tile")) (gCons (gVar 0) (gCons (gC (.bl false)) gNil)))) (gCons (gTup (gCons (gC (.str "tile")) (gCons (gVar 0) (gCons (gC (.bl false)) gNil)))) gNil))) (gSeq (gSet 4 (gIf (gTru (gCall sp__law_is_tile W R (gCons (gVar 1) gNil))) (gTup (gCons (gC (.str "told")) (gCons (gCall sp__law_do_fit W R (gCons (gVar 0) (gCons (gVar 1) gNil))) gNil))) (gTup (gCons (gC (.str "tile")) (gCons (gVar 1) (gCons (gC (.bl false)) gNil))))))
    (gSeq (gSet 6 (gFrz (gLc (gIter (gCall sp__law_borders W R (gCons (gVar 0) gNil))) (ggName 7) (gB (gBin eqD (gBlt reprV (gCons (gBin ixD (gVar 7) (gC (.int 0))) gNil)) (gBlt reprV (gCons (gVar 2) gNil)))) (gVar 7) [7])))
    (gSeq (gSet 5 (gTup (gCons (gC (.str "edge")) (gCons (gVar 2) (gCons (gC (.bl false)) gNil)))))
    (gIfS (gB (gBin neD (gVar 6) (gFrz (gLst gNil)))) (gSet 5 (gTup (gCons (gC (.str "told")) (gCons (gCall sp__law_is_lefthand W R (gCons (gBin ixD (gVar 2) (gC (.int 1))) (gCons (gBin ixD (gBin ixD (gVar 6) (gC (.int 0))) (gC (.int 1))) (gCons (gBin ixD (gBin ixD (gVar 6) (gC (.int 0))) (gC (.int 2))) gNil)))) gNil)))) gSkip)))))
    (gSeq (gSetL 3 (gLst (gCons (gLam sp__law_told W (fun R => (gCall sp_does_fit W R (gCons (gVar 0) (gCons (gVar 1) gNil))))) gNil)))
    (gSeq (gApp 3 (gLam sp__law_told W (fun R => (gCallK sp_does_fit 0 2 [1, 0] W R gNil (gCons (gVar 1) (gCons (gVar 0) gNil))))))
    (gSeq (gApp 3 (gLam sp__law_told W (fun R => (gCall sp_is_left W R (gCons (gVar 0) (gCons (gVar 2) gNil))))))
    (gSeq (gApp 3 (gLam sp__law_told W (fun R => (gCallK sp_is_left 0 2 [1, 0] W R gNil (gCons (gVar 2) (gCons (gVar 0) gNil))))))
    (gFz 3 (gRet (gCall sp__law_same W R (gCons (gVar 3) (gCons (gFrz (gLst (gCons (gVar 4) (gCons (gVar 4) (gCons (gVar 5) (gCons (gVar 5) gNil)))))) gNil))))))))))
def g_law (W : WD) (R : Er → Prop) : GS :=
  (gSeq (gFor (gRng1 (gCons (gC (.int 2)) gNil)) (ggName 2) (gIfS (gNotT (gTru (gCall sp__law_are_neighbours_right W R (gCons (gCall sp__law_drawn W R (gCons (gVar 1) gNil)) gNil)))) (gRet (gC (.bl false))) gSkip))
    (gSeq (gFor (gRng1 (gCons (gC (.int 5)) gNil)) (ggName 2) (gSeq (gPar [3, 4] (gCons (gCall sp__law_drawn W R (gCons (gVar 1) gNil)) (gCons (gCall sp__law_drawn W R (gCons (gVar 1) gNil)) gNil)))
    (gSeq (gSet 5 (gBin ixD (gCall sp__law_pick W R (gCons (gVar 1) (gCons (gCall sp__law_borders W R (gCons (gVar 3) gNil)) gNil))) (gC (.int 0))))
    (gSeq (gIfS (gB (gBin eqD (gCall sp__law_draw W R (gCons (gVar 1) (gCons (gC (.int 4)) gNil))) (gC (.int 0)))) (gSet 5 (gBin ixD (gCall sp__law_pick W R (gCons (gVar 1) (gCons (gCall sp__law_borders W R (gCons (gVar 4) gNil)) gNil))) (gC (.int 0)))) gSkip)
    (gSeq (gPar [3, 4, 5] (gCons (gCall sp__law_maybe W R (gCons (gVar 1) (gCons (gVar 3) gNil))) (gCons (gCall sp__law_maybe W R (gCons (gVar 1) (gCons (gVar 4) gNil))) (gCons (gCall sp__law_maybe W R (gCons (gVar 1) (gCons (gVar 5) gNil))) gNil))))
    (gSeq (gSet 6 (gBlt reprB (gCons (gTup (gCons (gVar 3) (gCons (gVar 4) (gCons (gVar 5) gNil)))) gNil)))
    (gSeq (gIfS (gOrT (gNotT (gTru (gCall sp__law_is_alone_right W R (gCons (gVar 3) gNil)))) (gNotT (gTru (gCall sp__law_are_two_right W R (gCons (gVar 3) (gCons (gVar 4) (gCons (gVar 5) gNil))))))) (gRet (gC (.bl false))) gSkip)
    (gIfS (gNotT (gTru (gCall sp__law_same W R (gCons (gBlt reprB (gCons (gTup (gCons (gVar 3) (gCons (gVar 4) (gCons (gVar 5) gNil)))) gNil)) (gCons (gVar 6) gNil))))) (gRet (gC (.bl false))) gSkip))))))))
    (gRet (gC (.bl true)))))
theorem len_is_integer : ∀ W ds Q R, sp_is_integer W ds Q R → ds.length = 1 := by
  rintro W ds Q R ⟨x, rfl, _⟩
  rfl
theorem law_is_integer : ∀ W ds Q R, sp_is_integer W ds Q R → g_is_integer W R (endsD Q) (startD 1 ds) := by
  rintro W ds Q R ⟨x, rfl, h, q⟩
  simp [g_is_integer, startD, isiX, h, show knownT "int" = true by decide, show knownT "bool" = true by decide]
  cases x <;> simp_all [tyD, isiB, isTb, isI]
theorem len_raised : ∀ W ds Q R, sp_raised W ds Q R → ds.length = 2 := by
  rintro W ds Q R ⟨f, j, rfl, _⟩
  rfl
theorem law_raised : ∀ W ds Q R, sp_raised W ds Q R → g_raised W R (endsD Q) (startD 3 ds) := by
  rintro W ds Q R ⟨f, j, rfl, h0, h1, q⟩
  rcases five_of h0 h1 with h | h | h | h | h <;> subst h <;> simp [g_raised, startD, tup5, listD, gAugI, ixN, tupleD, iaddD] <;> simpa [tup5, rz] using q
theorem len__law_same : ∀ W ds Q R, sp__law_same W ds Q R → ds.length = 2 := by
  rintro W ds Q R ⟨x, rfl, _⟩
  rfl
theorem law__law_same : ∀ W ds Q R, sp__law_same W ds Q R → g__law_same W R (endsD Q) (startD 2 ds) := by
  rintro W ds Q R ⟨x, rfl, h, q⟩
  simp [g__law_same, startD, h.1, h.2.1, h.2.2.1, h.len, q]
theorem len_is_direction : ∀ W ds Q R, sp_is_direction W ds Q R → ds.length = 1 := by
  rintro W ds Q R ⟨x, rfl, _⟩
  rfl
theorem law_is_direction : ∀ W ds Q R, sp_is_direction W ds Q R → g_is_direction W R (endsD Q) (startD 1 ds) := by
  rintro W ds Q R ⟨x, rfl, h, q⟩
  simp [g_is_direction, startD]
  refine ⟨x, rfl, h, ?_⟩
  cases x <;> simp_all [isI, truthD, isDir, leD]
  split <;> simp_all
theorem len_is_five : ∀ W ds Q R, sp_is_five W ds Q R → ds.length = 1 := by
  rintro W ds Q R ⟨x, rfl, _⟩
  rfl
theorem law_is_five : ∀ W ds Q R, sp_is_five W ds Q R → g_is_five W R (endsD Q) (startD 2 ds) := by
  rintro W ds Q R ⟨x, rfl, h, q⟩
  simp [g_is_five, startD, isiX, h.1, show knownT "tuple" = true by decide]
  cases x with
  | tup xs =>
    have hx := h.2 xs rfl
    simp [isiB, tyD, isTb, lenD]
    by_cases hl : xs.length = 5
    · simp [hl]
      refine all_lcP _ isi_hs (by simp) xs [] hx (by simp [hl]) ?_
      simp [allD, bls_map]
      simpa [isFive, hl] using q
    · have hl2 : ¬ ((xs.length : Int) = 5) := by omega
      have hl3 : ((xs.length : Int) == 5) = false := beq_eq_false_iff_ne.mpr hl2
      simpa [isFive, hl, hl2, hl3] using q
  | _ => simpa [isiB, tyD, isTb, isFive] using q
theorem len__law_pick : ∀ W ds Q R, sp__law_pick W ds Q R → ds.length = 2 := by
  rintro W ds Q R ⟨d, l, xs, _, rfl | rfl, _⟩ <;> rfl
theorem law__law_pick : ∀ W ds Q R, sp__law_pick W ds Q R → g__law_pick W R (endsD Q) (startD 2 ds) := by
  rintro W ds Q R ⟨d, l, xs, rfl, rfl | rfl, h1, h2, q⟩
  all_goals
    simp [g__law_pick, startD, lenD]
    refine ⟨d, l, _, rfl, rfl, by omega, by exact_mod_cast h2, fun r hr0 hr1 => ?_⟩
    have hr : r.toNat < xs.length := by omega
    refine ⟨xs[r.toNat], ?_, q _ (List.getElem_mem hr)⟩
    simp [atI, ixN, hr0, hr1, hr]
theorem len__law_integer : ∀ W ds Q R, sp__law_integer W ds Q R → ds.length = 2 := by
  rintro W ds Q R ⟨d, l, n, _, rfl, _⟩
  rfl
theorem int_loop (d l : Addr) (R : Er → Prop) (E : Ed) (y z u : SV) (N : Nat) (hN : N ≤ 200) (hE : ∀ a v, Sz (20 * N) a → E.nx [.d (dkD d), y, z, u, .d (.int a), v]) : ∀ (ds : List D) (a : Int) (M : Nat) (v : SV), 0 ≤ a → a < 10 ^ (6 * M) → M + ds.length ≤ N →
    forG (ggName 5) (gSet 4 (gBin addD (gBin mulD (gVar 4) (gBin powD (gC (.int 10)) (gC (.int 6)))) (gCall sp__law_draw (some (d, l)) R (gCons (gVar 0) (gCons (gBin powD (gC (.int 10)) (gC (.int 6))) gNil))))) ds E [.d (dkD d), y, z, u, .d (.int a), v]
  | [], a, M, v, h0, h1, h3 => hE a v ((ten_sz h0 h1).mono (by simp at h3; omega))
  | x :: ds, a, M, v, h0, h1, h3 => by
    have m1 : ND.MulOk a 1000000 := (ten_sz h0 h1).ok (n := 20 * M) (m := 20) (by decide) (by simp at h3; omega)
    simp [forG, m1]
    refine dr (by decide) (by decide) fun r r0 r1 => ?_
    simp
    refine int_loop d l R E y z u N hN hE ds _ (M + 1) (.d x) ?_ ?_ (by simp at h3; omega)
    · omega
    · have e : (10 : Int) ^ (6 * (M + 1)) = 10 ^ (6 * M) * 1000000 := by
        rw [Nat.mul_add, Int.pow_add]
        rfl
      rw [e]
      omega
theorem law__law_integer : ∀ W ds Q R, sp__law_integer W ds Q R → g__law_integer W R (endsD Q) (startD 6 ds) := by
  rintro W ds Q R ⟨d, l, n, rfl, rfl, h1, h2, q⟩
  have m1 : ND.MulOk 6 (n : Int) := (Sz.small (by decide) (by decide)).ok (sz_nat (by omega)) (by decide)
  simp [g__law_integer, startD, m1]
  refine dr (by decide) (by decide) fun way w0 w1 => ?_
  refine dr (by decide) (by decide) fun fc f0 f1 => ?_
  have mf : ND.MulOk 2 fc := (Sz.small (by decide) (by decide)).ok (Sz.small (by omega) (by omega)) (by decide)
  have sf : Sz 2 (1 - 2 * fc) := by
    show (1 - 2 * fc).natAbs < 2 ^ 2
    omega
  simp [mf]
  generalize 1 - 2 * fc = fac at sf
  split
  · have wc : way = 0 ∨ way = 1 ∨ way = 2 ∨ way = 3 ∨ way = 4 ∨ way = 5 := by omega
    have fin : ∀ k : Int, 0 < k → k ≤ 1000 → sp__law_draw (some (d, l)) [dkD d, .int k] (fun y => mulD (.int fac) y Q) R := fun k k0 k1 => by
      refine dr k0 (by rw [e62]; omega) fun r r0 r1 => ?_
      have sr : Sz 20 r := Sz.small (by omega) (by omega)
      simp
      exact ⟨sf.ok sr (by decide), q _ ((sf.mul sr).mono (by omega))⟩
    rcases wc with h | h | h | h | h | h <;> subst h <;> simp [ixD, atI, ixN] <;> exact fin _ (by decide) (by decide)
  · split
    · obtain ⟨i, e1, e2, i0, i1⟩ := nine_text (k := 6 * n) (by omega) (by omega)
      have ek : (6 * (n : Int)) = ((6 * n : Nat) : Int) := by simp
      rw [ek]
      refine ⟨by omega, ?_, by decide, i, e1, e2, ?_⟩
      · have : (Str.ofString "9").length = 1 := by decide
        rw [this]
        rw [Int.toNat_natCast, Nat.one_mul]
        exact Nat.le_trans (by omega : 6 * n ≤ 1020) (by decide : 1020 ≤ sizeLine)
      · refine dr (by decide) (by decide) fun r r0 r1 => ?_
        have si : Sz (20 * n + 6) (i - r) := by
          have s1 := ten_sz i0 i1
          have s2 : Sz 20 r := Sz.small (by omega) (by omega)
          exact ((s1.mono (by omega : 20 * n ≤ 20 * n + 0)).sub (s2.mono (by omega))).mono (by omega)
        simp
        exact ⟨sf.ok si (by omega), q _ ((sf.mul si).mono (by omega))⟩
    · refine dr (by omega) (by rw [e62]; omega) fun r r0 r1 => ?_
      simp
      refine ⟨by omega, by omega, ?_⟩
      refine int_loop d l R _ _ _ _ n (by omega) (fun a v sa => ?_) _ 0 0 _ (by decide) (by decide) (by simp [ND.intsFrom]; omega)
      simp
      exact ⟨sf.ok sa (by omega), q _ ((sf.mul sa).mono (by omega))⟩
theorem len_is_corner_five : ∀ W ds Q R, sp_is_corner_five W ds Q R → ds.length = 1 := by
  rintro W ds Q R ⟨x, rfl, _⟩
  rfl
theorem law_is_corner_five : ∀ W ds Q R, sp_is_corner_five W ds Q R → g_is_corner_five W R (endsD Q) (startD 1 ds) := by
  rintro W ds Q R ⟨x, rfl, h, q⟩
  simp [g_is_corner_five, startD]
  refine ⟨x, rfl, h, ?_⟩
  cases hf : isFive x
  · rw [cor_no hf] at q
    simpa [hf] using q
  · obtain ⟨xs, rfl, hl, ha⟩ := five_xs hf
    rw [cor_eq hl ha] at q
    simp [sumD, ints_of ha, leD]
    by_cases hb : 1 ≤ (xs.map nOf).sum ∧ (xs.map nOf).sum ≤ 4
    · rw [decide_eq_true hb] at q
      simpa [hb.1, hb.2] using q
    · rw [decide_eq_false hb] at q
      split
      · rw [decide_eq_false (by omega)]; exact q
      · exact q
theorem in_two (i a b : Int) (Q : D → Prop) : inD false (.int i) (.tup [.int a, .int b]) Q = Q (.bl (decide (i = a ∨ i = b))) := by
  have e : inb (.int i) [.int a, .int b] = decide (i = a ∨ i = b) := by
    have e1 : eqb (.int a) (.int i) = (a == i) := rfl
    have e2 : eqb (.int b) (.int i) = (b == i) := rfl
    simp only [inb, List.any_cons, List.any_nil, Bool.or_false, e1, e2]
    by_cases h1 : i = a
    · subst h1; simp
    · by_cases h2 : i = b
      · subst h2; simp
      · simp [h1, h2, Ne.symm h1, Ne.symm h2]
  show (_ ∧ _ ∧ Q (.bl (inb (.int i) [.int a, .int b]))) = _
  rw [e]
  simp [pl, pls]
theorem eqD_bb (a b : Bool) (Q : D → Prop) : eqD (.bl a) (.bl b) Q = Q (.bl (a == b)) := by
  show (_ ∧ _ ∧ Q (.bl (eqb (.bl a) (.bl b)))) = _
  have e : eqb (.bl a) (.bl b) = (a == b) := rfl
  rw [e]
  simp [pl]
theorem len_are_near : ∀ W ds Q R, sp_are_near W ds Q R → ds.length = 2 := by
  rintro W ds Q R ⟨a, b, rfl, _⟩
  rfl
theorem law_are_near : ∀ W ds Q R, sp_are_near W ds Q R → g_are_near W R (endsD Q) (startD 2 ds) := by
  rintro W ds Q R ⟨a, b, rfl, q⟩
  simp [g_are_near, startD, in_two]
  simpa [near] using q
theorem len_lies_left : ∀ W ds Q R, sp_lies_left W ds Q R → ds.length = 2 := by
  rintro W ds Q R ⟨f, r, s, n, rfl, _⟩
  rfl
theorem law_lies_left : ∀ W ds Q R, sp_lies_left W ds Q R → g_lies_left W R (endsD Q) (startD 5 ds) := by
  rintro W ds Q R ⟨f, r, s, n, rfl, hn, q⟩
  match n, hn with
  | 0, _ =>
    simp [g_lies_left, startD, in_two, eqD_bb]
    simpa [lleft, near2, eo, ej] using q
  | 1, _ =>
    simp [g_lies_left, startD, in_two, eqD_bb]
    simpa [lleft, near2, eo, ej] using q
  | 2, _ =>
    simp [g_lies_left, startD, in_two, eqD_bb]
    simpa [lleft, near2, eo, ej] using q
  | 3, _ =>
    simp [g_lies_left, startD, in_two, eqD_bb]
    simpa [lleft, near2, eo, ej] using q
theorem len__law_step : ∀ W ds Q R, sp__law_step W ds Q R → ds.length = 3 := by
  rintro W ds Q R ⟨f, r, m, rfl, _⟩
  rfl
theorem law__law_step : ∀ W ds Q R, sp__law_step W ds Q R → g__law_step W R (endsD Q) (startD 3 ds) := by
  rintro W ds Q R ⟨f, r, m, rfl, h0, h1, q⟩
  rcases five_of h0 h1 with h | h | h | h | h <;> subst h <;> simp [g__law_step, startD, tup5, slD, cutG, HT.sIx, ixD, atI, ixN, addD] <;> simpa [tup5, rz] using q
theorem len__law_is_lefthand : ∀ W ds Q R, sp__law_is_lefthand W ds Q R → ds.length = 3 := by
  rintro W ds Q R ⟨j, b, u, rfl, _⟩
  rfl
theorem mo2 {b : Int} (h0 : 0 ≤ b) (h1 : b ≤ 4) : MulOk 2 b := (show Sz 20 (2 : Int) by decide).ok (Sz.small (by omega) (by omega)) (by decide)
theorem law__law_is_lefthand : ∀ W ds Q R, sp__law_is_lefthand W ds Q R → g__law_is_lefthand W R (endsD Q) (startD 4 ds) := by
  rintro W ds Q R ⟨j, b, u, rfl, j0, j1, b0, b1, q⟩
  simp [g__law_is_lefthand, startD]
  unfold lhand at q
  split
  · rename_i hu
    rw [if_pos hu] at q
    exact ⟨mo2 b0 b1, mo2 j0 j1, q⟩
  · rename_i hu
    rw [if_neg hu] at q
    exact ⟨mo2 b0 b1, mo2 j0 j1, q⟩
theorem len__law_mark : ∀ W ds Q R, sp__law_mark W ds Q R → ds.length = 2 := by
  rintro W ds Q R ⟨f, r, s, g, j, rfl, _⟩
  rfl
theorem law__law_mark : ∀ W ds Q R, sp__law_mark W ds Q R → g__law_mark W R (endsD Q) (startD 2 ds) := by
  rintro W ds Q R ⟨f, r, s, g, j, rfl, q⟩
  simp [g__law_mark, startD, in_two, eqD_bb]
  refine sum5_D ?_
  simp
  unfold markL at q
  by_cases hk : sum5 g = 2
  · rw [if_pos hk] at q
    simp [hk]
    refine sum5_D ?_
    simp [eqD_bb]
    by_cases h1 : decide (s - r = 1 ∨ s - r = 4) = decide (sum5 f = 1)
    · rw [if_pos h1] at q
      have h2 : (decide (s - r = 1) || decide (s - r = 4)) = decide (sum5 f = 1) := by rw [← h1]; simp
      simp [h2]
      exact q
    · rw [if_neg h1] at q
      have h2 : ¬ (decide (s - r = 1) || decide (s - r = 4)) = decide (sum5 f = 1) := fun e => h1 (by rw [← e]; simp)
      simp [h2]
      exact q
  · rw [if_neg hk] at q
    simp [hk]
    exact q
theorem len__law_is_tile : ∀ W ds Q R, sp__law_is_tile W ds Q R → ds.length = 1 := by
  rintro W ds Q R ⟨x, rfl, _⟩
  rfl
theorem tile_eq (c r s : D) : isTile (.tup [c, r, s]) = (isCor c && (decide (sumN c ≤ 2) && (isDir r && (isDir s && decide (nOf r < nOf s))))) := by
  simp only [isTile, isCor]
  cases isFive c
  · rfl
  · cases r with
    | int r =>
      cases s with
      | int s =>
        rw [Bool.eq_iff_iff]
        simp only [isI, isDir, Bool.true_and, Bool.and_eq_true, decide_eq_true_eq]
        simp only [nOf]
        omega
      | _ => simp [isI, isDir]
    | _ => simp [isI, isDir]
theorem tile_no {xs : List D} (hl : ¬ xs.length = 3) : isTile (.tup xs) = false := by
  unfold isTile
  split
  · rename_i e
    cases e
    simp at hl
  · rfl
theorem len_is_tile_row : ∀ W ds Q R, sp_is_tile_row W ds Q R → ds.length = 1 := len__law_is_tile
theorem law_is_tile_row : ∀ W ds Q R, sp_is_tile_row W ds Q R → g_is_tile_row W R (endsD Q) (startD 1 ds) := by
  rintro W ds Q R ⟨x, rfl, h, q⟩
  simp [g_is_tile_row, startD, rp_ty h]
  cases x with
  | tup xs =>
    have hx : ∀ x ∈ xs, rp 63 x = true := by
      simp only [rp, rps_all, List.all_eq_true] at h
      exact h
    simp [isiB, tyD, isTb, lenD]
    by_cases hl : xs.length = 3
    · obtain ⟨c, r, s, rfl⟩ := len3 hl
      rw [tile_eq] at q
      simp
      refine ⟨c, rfl, tyk1_rp (rp_mono _ _ _ (by decide) (hx c (by simp))), ?_⟩
      cases h1 : isCor c
      · simpa [h1] using q
      · simp
        refine sumN_D (cor_five h1) ?_
        rw [h1, Bool.true_and] at q
        simp [leD]
        cases h2 : decide (sumN c ≤ 2)
        · simpa [h2, of_decide_eq_false h2] using q
        · rw [h2, Bool.true_and] at q
          simp [of_decide_eq_true h2]
          refine ⟨r, rfl, tyk_rp (hx r (by simp)), ?_⟩
          cases h3 : isDir r
          · simpa [h3] using q
          · rw [h3, Bool.true_and] at q
            simp
            refine ⟨s, rfl, tyk_rp (hx s (by simp)), ?_⟩
            cases h4 : isDir s
            · simpa [h4] using q
            · rw [h4, Bool.true_and] at q
              obtain ⟨i, rfl, _⟩ := dir_n h3
              obtain ⟨j, rfl, _⟩ := dir_n h4
              have q' : Q (.bl (decide (i < j))) := q
              simpa [ltD] using q'
    · have hl2 : ¬ ((xs.length : Int) = 3) := by omega
      rw [tile_no hl] at q
      simpa [hl, hl2] using q
  | _ => simpa [isiB, tyD, isTb, isTile] using q
theorem law__law_is_tile : ∀ W ds Q R, sp__law_is_tile W ds Q R → g__law_is_tile W R (endsD Q) (startD 2 ds) := by
  rintro W ds Q R ⟨x, rfl, h, q⟩
  simp [g__law_is_tile, startD, rp_ty h]
  cases x with
  | tup xs =>
    have hx : ∀ x ∈ xs, rp 63 x = true := by
      simp only [rp, rps_all, List.all_eq_true] at h
      exact h
    simp [isiB, tyD, isTb, lenD, -neD_l, -eqb_nil]
    by_cases hl : xs.length = 3
    · obtain ⟨c, r, s, rfl⟩ := len3 hl
      simp [-neD_l, -eqb_nil]
      have hc := hx c (by simp)
      cases c with
      | tup cs =>
        have hcs := (tyk1_rp (rp_mono _ 64 _ (by decide) hc)).2 cs rfl
        by_cases h5 : cs.length = 5
        · have h5' : (cs.length : Int) = 5 := by omega
          simp [h5, slD, cutG, HT.sIx, addD, -neD_l, -eqb_nil]
          have ty : ∀ x ∈ cs ++ [r, s], (tyD x).isSome = true := fun x m => by
            rcases List.mem_append.mp m with m | m
            · exact hcs x m
            · exact rp_ty (hx x (List.mem_cons_of_mem _ m))
          refine one_lc (c := fun x => !isI x) (by simp) (cs ++ [r, s]) [] (fun x m Qd q => ?_) (by simp [h5]) ?_
          · simp [ty x m]
            cases x <;> simpa [isiB, tyD, isTb, isI] using q
          refine ne_ones ?_
          cases h1 : cs.all isI
          · rw [if_neg (by simp [h1])]
            rw [show isTile (.tup [.tup cs, r, s]) = false by simp [isTile, isFive, h1]] at q
            exact q
          · cases h2 : isI r
            · rw [if_neg (by simp [h1, h2])]
              rw [show isTile (.tup [.tup cs, r, s]) = false by simp [isTile, h2]] at q
              exact q
            · cases h3 : isI s
              · rw [if_neg (by simp [h1, h2, h3])]
                rw [show isTile (.tup [.tup cs, r, s]) = false by simp [isTile, h3]] at q
                exact q
              · rw [if_pos (by simp [List.all_append, h1, h2, h3])]
                obtain ⟨i, rfl⟩ := isI_n h2
                obtain ⟨j, rfl⟩ := isI_n h3
                have hf : isFive (.tup cs) = true := five_ok h5 h1
                refine sumN_D hf ?_
                have et : isTile (.tup [.tup cs, .int i, .int j]) = (decide (sumN (.tup cs) = 1 ∨ sumN (.tup cs) = 2) && (decide (0 ≤ i) && (decide (i < j) && decide (j < 5)))) := by
                  rw [Bool.eq_iff_iff]
                  simp only [isTile, hf, isI, Bool.true_and, Bool.and_eq_true, decide_eq_true_eq]
                  simp only [nOf]
                rw [et] at q
                simp [in_two, geD, ltD]
                generalize sumN (.tup cs) = k at *
                by_cases k1 : k = 1 ∨ k = 2
                · by_cases k2 : 0 ≤ i
                  · by_cases k3 : i < j
                    · simp only [decide_eq_true k1, decide_eq_true k2, decide_eq_true k3, Bool.true_and] at q
                      simpa [k1, k2, k3] using q
                    · simp only [decide_eq_true k1, decide_eq_true k2, decide_eq_false k3, Bool.true_and, Bool.false_and] at q
                      simpa [k1, k2, k3] using q
                  · simp only [decide_eq_true k1, decide_eq_false k2, Bool.true_and, Bool.false_and] at q
                    simpa [k1, k2] using q
                · simp only [decide_eq_false k1, Bool.false_and] at q
                  have k2 := not_or.mp k1
                  simpa [k2.1, k2.2] using q
        · have h5' : ¬ ((cs.length : Int) = 5) := by omega
          have e : isTile (.tup [.tup cs, r, s]) = false := by simp [isTile, isFive, h5]
          rw [e] at q
          simpa [h5'] using q
      | obj n fs => simp [rp] at hc
      | opq v => simp [rp] at hc
      | _ => simpa [isTile, isFive] using q
    · have hl2 : ¬ ((xs.length : Int) = 3) := by omega
      rw [tile_no hl] at q
      simpa [hl, hl2] using q
  | _ => simpa [isiB, tyD, isTb, isTile] using q
theorem len_is_edge_row : ∀ W ds Q R, sp_is_edge_row W ds Q R → ds.length = 1 := by
  rintro W ds Q R ⟨x, rfl, _⟩
  rfl
theorem law_is_edge_row : ∀ W ds Q R, sp_is_edge_row W ds Q R → g_is_edge_row W R (endsD Q) (startD 1 ds) := by
  rintro W ds Q R ⟨x, rfl, h, q⟩
  simp [g_is_edge_row, startD, rp_ty h]
  cases x with
  | tup xs =>
    have hx : ∀ x ∈ xs, rp 63 x = true := by
      simp only [rp, rps_all, List.all_eq_true] at h
      exact h
    simp [isiB, tyD, isTb, lenD]
    by_cases hl : xs.length = 2
    · match xs, hl with
      | [c, j], _ =>
        simp
        refine ⟨c, rfl, tyk1_rp (rp_mono _ _ _ (by decide) (hx c (by simp))), ?_⟩
        cases h1 : isCor c
        · simpa [isEdge, h1] using q
        · simp
          exact ⟨j, rfl, tyk_rp (hx j (by simp)), by simpa [isEdge, h1] using q⟩
    · have hl2 : ¬ ((xs.length : Int) = 2) := by omega
      have e : isEdge (.tup xs) = false := by
        unfold isEdge
        split
        · rename_i e
          cases e
          simp at hl
        · rfl
      rw [e] at q
      simpa [hl, hl2] using q
  | _ => simpa [isiB, tyD, isTb, isEdge] using q
theorem len__law_borders : ∀ W ds Q R, sp__law_borders W ds Q R → ds.length = 1 := by
  rintro W ds Q R ⟨f, r, s, rfl, _⟩
  rfl
theorem law__law_borders : ∀ W ds Q R, sp__law_borders W ds Q R → g__law_borders W R (endsD Q) (startD 4 ds) := by
  rintro W ds Q R ⟨f, r, s, rfl, r0, r4, s0, s4, q⟩
  simp [g__law_borders, startD]
  refine ⟨f, s, 1, rfl, s0, s4, ?_⟩
  refine ⟨f, r, 1, rfl, r0, r4, ?_⟩
  exact q
theorem fT_tl (f : Int → Int) (r s : Int) : tup5 (fT (tl f r s)) = tup5 f := by
  show tup5 (fOf (tup5 f)) = tup5 f
  exact tup5_ext fun i i0 i4 => by
    show at5 (f 0) (f 1) (f 2) (f 3) (f 4) i = f i
    exact at5_at i0 i4
theorem sumN_t (f : Int → Int) : sumN (tup5 f) = sum5 f := by
  simp [sumN, tup5, sum5, nOf]
  omega
theorem tile_n {x : D} (h : isTile x = true) : TileD x (fT x) (rT x) (sT x) := by
  unfold isTile at h
  split at h
  · rename_i c r s
    simp only [Bool.and_eq_true, decide_eq_true_eq] at h
    obtain ⟨h1, h2, h3, h4, h5, h6, h7⟩ := h
    obtain ⟨i, rfl⟩ := isI_n h2
    obtain ⟨j, rfl⟩ := isI_n h3
    have e := five_f h1
    refine ⟨?_, ?_, h5, h6, ?_⟩
    · show D.tup [c, .int i, .int j] = .tup [tup5 (fOf c), .int i, .int j]
      rw [← e]
    · show sum5 (fOf c) = 1 ∨ sum5 (fOf c) = 2
      rw [← sumN_t, ← e]
      exact h4
    · exact Int.lt_add_one_iff.mp h7
  · cases h
theorem tile_y {x : D} {f : Int → Int} {r s : Int} (h : TileD x f r s) : isTile x = true := by
  obtain ⟨rfl, k, r0, rs, s4⟩ := h
  have h1 : isFive (tup5 f) = true := rfl
  show (isFive (tup5 f) && (true && (true && decide ((sumN (tup5 f) = 1 ∨ sumN (tup5 f) = 2) ∧ 0 ≤ r ∧ r < s ∧ s < 5)))) = true
  rw [h1, sumN_t]
  simp
  exact ⟨k, r0, rs, by omega⟩
theorem need_in {W : WD} {x : D} {Q : D → Prop} {R : Er → Prop} (h : rp 64 x = true) (q1 : isTile x = true → Q .non) (q2 : isTile x = false → R ⟨"BadTile", [("thing", x)]⟩) : sp_need_tile W [x] Q R := by
  refine ⟨x, rfl, h, ?_⟩
  cases e : isTile x
  · simpa [onT, e, outT] using q2 e
  · simpa [onT, e, outT] using q1 e
theorem on_no {x d : D} {Q : D → Prop} {R : Er → Prop} (e : isTile x = false) (o : outT (onT x d) Q R) : R ⟨"BadTile", [("thing", x)]⟩ := by
  simpa [onT, e, outT] using o
theorem on_yes {x d : D} {Q : D → Prop} {R : Er → Prop} (e : isTile x = true) (o : outT (onT x d) Q R) : Q d := by
  simpa [onT, e, outT] using o
theorem len1 {o : D → Ot} : ∀ W ds Q R, sp1 o W ds Q R → ds.length = 1 := by
  rintro W ds Q R ⟨x, rfl, _⟩
  rfl
theorem len_need_tile : ∀ W ds Q R, sp_need_tile W ds Q R → ds.length = 1 := len1
theorem law_need_tile : ∀ W ds Q R, sp_need_tile W ds Q R → g_need_tile W R (endsD Q) (startD 1 ds) := by
  rintro W ds Q R ⟨x, rfl, h, o⟩
  simp [g_need_tile, startD]
  refine ⟨x, rfl, h, ?_⟩
  cases e : isTile x
  · simpa using on_no e o
  · simpa using on_yes e o
theorem len_corners_of : ∀ W ds Q R, sp_corners_of W ds Q R → ds.length = 1 := len1
theorem law_corners_of : ∀ W ds Q R, sp_corners_of W ds Q R → g_corners_of W R (endsD Q) (startD 5 ds) := by
  rintro W ds Q R ⟨x, rfl, h, o⟩
  simp [g_corners_of, startD]
  refine need_in h (fun e => ?_) fun e => on_no e o
  have q := on_yes e o
  obtain ⟨ex, k, r0, rs, s4⟩ := tile_n e
  generalize fT x = f at *
  generalize rT x = r at *
  generalize sT x = s at *
  subst ex
  simp
  refine ⟨f, r, rfl, r0, by omega, ?_⟩
  simp
  refine ⟨f, s, rfl, by omega, s4, ?_⟩
  refine ⟨rz f r 1, s, rfl, by omega, s4, ?_⟩
  exact q
theorem len_edges_of : ∀ W ds Q R, sp_edges_of W ds Q R → ds.length = 1 := len1
theorem law_edges_of : ∀ W ds Q R, sp_edges_of W ds Q R → g_edges_of W R (endsD Q) (startD 4 ds) := by
  rintro W ds Q R ⟨x, rfl, h, o⟩
  simp [g_edges_of, startD]
  refine need_in h (fun e => ?_) fun e => on_no e o
  have q := on_yes e o
  obtain ⟨ex, k, r0, rs, s4⟩ := tile_n e
  generalize fT x = f at *
  generalize rT x = r at *
  generalize sT x = s at *
  subst ex
  simp
  refine ⟨f, s, rfl, by omega, s4, ?_⟩
  refine ⟨f, r, rfl, r0, by omega, ?_⟩
  exact q
theorem len_is_thick : ∀ W ds Q R, sp_is_thick W ds Q R → ds.length = 1 := len1
theorem law_is_thick : ∀ W ds Q R, sp_is_thick W ds Q R → g_is_thick W R (endsD Q) (startD 1 ds) := by
  rintro W ds Q R ⟨x, rfl, h, o⟩
  simp [g_is_thick, startD]
  refine need_in h (fun e => ?_) fun e => on_no e o
  have q := on_yes e o
  obtain ⟨ex, k, r0, rs, s4⟩ := tile_n e
  generalize fT x = f at *
  generalize rT x = r at *
  generalize sT x = s at *
  subst ex
  simp
  exact ⟨r, s, rfl, q⟩
theorem len_is_low : ∀ W ds Q R, sp_is_low W ds Q R → ds.length = 1 := len1
theorem law_is_low : ∀ W ds Q R, sp_is_low W ds Q R → g_is_low W R (endsD Q) (startD 1 ds) := by
  rintro W ds Q R ⟨x, rfl, h, o⟩
  simp [g_is_low, startD]
  refine need_in h (fun e => ?_) fun e => on_no e o
  have q := on_yes e o
  obtain ⟨ex, k, r0, rs, s4⟩ := tile_n e
  generalize fT x = f at *
  generalize rT x = r at *
  generalize sT x = s at *
  subst ex
  simp
  refine sum5_D ?_
  simpa using q
theorem len_marks_of : ∀ W ds Q R, sp_marks_of W ds Q R → ds.length = 1 := len1
theorem law_marks_of : ∀ W ds Q R, sp_marks_of W ds Q R → g_marks_of W R (endsD Q) (startD 2 ds) := by
  rintro W ds Q R ⟨x, rfl, h, o⟩
  simp [g_marks_of, startD]
  refine ⟨x, rfl, h, ?_⟩
  cases e : isTile x
  · simpa [thickO, onT, e, outT] using on_no e o
  · simp [thickO, onT, e, outT]
    have q := on_yes e o
    have low : ∀ {Q : D → Prop}, Q (.bl (decide (sum5 (fT x) = 1))) → sp_is_low W [x] Q R := fun q => ⟨x, rfl, h, by simpa [lowO, onT, e, outT] using q⟩
    refine low ?_
    simp [eqD_bb]
    unfold marksD mkS inner at q
    generalize near (rT x) (sT x) = nr at *
    by_cases hk : sum5 (fT x) = 1
    · simp [hk] at q ⊢
      cases nr
      · simp at q ⊢
        refine low ?_
        simpa [hk] using q
      · simp at q ⊢
        refine low ?_
        simpa [hk] using q
    · simp [hk] at q ⊢
      cases nr
      · simp at q ⊢
        refine low ?_
        simpa [hk] using q
      · simp at q ⊢
        refine low ?_
        simpa [hk] using q
theorem sm5_iff {f g : Int → Int} : sm5 f g = true ↔ tup5 f = tup5 g := by
  unfold sm5 tup5
  simp
theorem eqb_tup5 (f g : Int → Int) : eqb (tup5 f) (tup5 g) = sm5 f g := by
  have e : eqb (tup5 f) (tup5 g) = ((f 0 == g 0) && ((f 1 == g 1) && ((f 2 == g 2) && ((f 3 == g 3) && ((f 4 == g 4) && true))))) := rfl
  rw [e]
  unfold sm5
  rw [Bool.eq_iff_iff]
  simp
theorem eqb_eg (f g : Int → Int) (j i : Int) : eqb (eg f j) (eg g i) = (sm5 f g && decide (j = i)) := by
  have e : eqb (eg f j) (eg g i) = (eqb (tup5 f) (tup5 g) && ((j == i) && true)) := rfl
  rw [e, eqb_tup5, Bool.and_true]
  rfl
theorem isE_iff {e : D} {f : Int → Int} {j : Int} : isE e f j = true ↔ e = eg f j := by
  constructor
  · intro h
    unfold isE at h
    split at h
    · rename_i c i
      simp only [Bool.and_eq_true, decide_eq_true_eq] at h
      obtain ⟨⟨h1, h2⟩, rfl⟩ := h
      rw [five_f h1, sm5_iff.mp h2]
    · cases h
  · rintro rfl
    show (true && sm5 (fOf (tup5 f)) f && decide (j = j)) = true
    have : tup5 (fOf (tup5 f)) = tup5 f := fT_tl f 0 0
    rw [sm5_iff.mpr this]
    simp
theorem cor_ef {f : Int → Int} {r s : Int} (h : TileD (tl f r s) f r s) {n : Nat} (hn : n ∈ four) : isCor (tup5 (ef f r s n)) = true ∧ 0 ≤ ej r s n ∧ ej r s n ≤ 4 := by
  obtain ⟨_, k, r0, rs, s4⟩ := h
  rw [cor5]
  have e1 := rz_sum (f := f) (j := s) (u := 1) (by omega) s4
  have e2 := rz_sum (f := f) (j := r) (u := 1) r0 (by omega)
  simp only [List.mem_cons, List.not_mem_nil, or_false] at hn
  rcases hn with rfl | rfl | rfl | rfl
  · exact ⟨decide_eq_true (by show 1 ≤ sum5 f ∧ sum5 f ≤ 4; omega), by show 0 ≤ r; omega, by show r ≤ 4; omega⟩
  · exact ⟨decide_eq_true (by show 1 ≤ sum5 f ∧ sum5 f ≤ 4; omega), by show 0 ≤ s; omega, by show s ≤ 4; omega⟩
  · exact ⟨decide_eq_true (by show 1 ≤ sum5 (rz f s 1) ∧ sum5 (rz f s 1) ≤ 4; omega), by show 0 ≤ r; omega, by show r ≤ 4; omega⟩
  · exact ⟨decide_eq_true (by show 1 ≤ sum5 (rz f r 1) ∧ sum5 (rz f r 1) ≤ 4; omega), by show 0 ≤ s; omega, by show s ≤ 4; omega⟩
theorem edge_of {f : Int → Int} {j : Int} {e : D} (hc : isCor (tup5 f) = true) (h0 : 0 ≤ j) (h4 : j ≤ 4) : (eqb (eg f j) e && isEdge e) = isE e f j := by
  rw [Bool.eq_iff_iff, isE_iff, Bool.and_eq_true]
  constructor
  · rintro ⟨h1, h2⟩
    unfold isEdge at h2
    split at h2
    · rename_i c i
      simp only [Bool.and_eq_true] at h2
      obtain ⟨i, rfl, _⟩ := dir_n h2.2
      have e := five_f (cor_five h2.1)
      rw [e] at h1 ⊢
      rw [eqb_eg] at h1
      simp only [Bool.and_eq_true, decide_eq_true_eq] at h1
      rw [h1.2, ← sm5_iff.mp h1.1]
    · cases h2
  · rintro rfl
    rw [eqb_eg, sm5_iff.mpr rfl]
    exact ⟨by simp, by simp [isEdge, hc, isDir, h0, h4]⟩
theorem ix_edges (f : Int → Int) (r s : Int) {n : Nat} (hn : n ∈ four) {Q : D → Prop} (q : Q (eg (ef f r s n) (ej r s n))) : ixD (edgesD f r s) (.int n) Q := by
  simp only [List.mem_cons, List.not_mem_nil, or_false] at hn
  rcases hn with rfl | rfl | rfl | rfl
  · exact ⟨_, rfl, q⟩
  · exact ⟨_, rfl, q⟩
  · exact ⟨_, rfl, q⟩
  · exact ⟨_, rfl, q⟩
theorem rp_eg (f : Int → Int) (j : Int) : rp 64 (eg f j) = true := by simp [eg, tup5, rp, rps]
theorem pl_eg (f : Int → Int) (j : Int) : pl 64 (eg f j) = true := by simp [eg, tup5, pl, pls]
theorem four_lt {n : Nat} (hn : n ∈ four) : n < 4 := by
  simp only [List.mem_cons, List.not_mem_nil, or_false] at hn
  omega
theorem len_is_left : ∀ W ds Q R, sp_is_left W ds Q R → ds.length = 2 := by
  rintro W ds Q R ⟨x, e, rfl, _⟩
  rfl
theorem law_is_left : ∀ W ds Q R, sp_is_left W ds Q R → g_is_left W R (endsD Q) (startD 4 ds) := by
  rintro W ds Q R ⟨x, e, rfl, hx, he, o⟩
  unfold g_is_left
  refine seq_setP (P := fun d => isTile x = true ∧ d = edgesD (fT x) (rT x) (sT x)) ⟨fun K k => ?_⟩ ?_
  · refine ⟨x, rfl, rp_mono _ _ _ (by decide) hx, ?_⟩
    cases et : isTile x
    · simpa [edgO, onT, et, outT, leftO] using o
    · simpa [edgO, onT, et, outT] using k _ ⟨et, rfl⟩
  rintro _ ⟨et, rfl⟩
  simp only [leftO, et, if_true] at o
  have ht := tile_n et
  have ex := ht.e
  generalize fT x = f at *
  generalize rT x = r at *
  generalize sT x = s at *
  subst ex
  show gSeq _ _ _ [.d (tl f r s), .d e, .d (edgesD f r s), .no]
  refine seq_rng (by decide) (by decide) ?_
  unfold leftE at o
  refine forG_find (fun n : Nat => .int n) (leftC f r s e) (fun σ => ∃ v, σ = [.d (tl f r s), .d e, .d (edgesD f r s), v]) four _ ⟨_, rfl⟩ (fun v ev => ?_) (fun ev => ?_) ?_
  · rw [ev] at o
    exact o
  · rw [ev] at o
    rintro σ ⟨v, rfl⟩
    simp
    exact o
  · rintro n hn σ ⟨v, rfl⟩ E' hrt hv hnx hct
    obtain ⟨h1, h2, h3⟩ := cor_ef ht hn
    have key := edge_of (e := e) h1 h2 h3
    simp
    refine ix_edges f r s hn ?_
    refine ⟨rp_eg _ _, rp_mono _ _ _ (by decide) he, .inl (pl_eg _ _), ?_⟩
    simp
    cases hq : eqb (eg (ef f r s n) (ej r s n)) e
    · rw [hq, Bool.false_and] at key
      simp
      exact hnx (by simp [leftC, ← key]) _ ⟨_, rfl⟩
    · rw [hq, Bool.true_and] at key
      simp
      refine ⟨e, rfl, rp_mono _ _ _ (by decide) he, ?_⟩
      rw [key]
      cases hi : isE e (ef f r s n) (ej r s n)
      · simp
        exact hnx (by simp [leftC, hi]) _ ⟨_, rfl⟩
      · simp
        refine ⟨f, r, s, n, rfl, four_lt hn, ?_⟩
        rw [hrt]
        exact hv _ (by simp [leftC, hi])
def fitC (f : Int → Int) (r s : Int) (g : Int → Int) (r' s' : Int) (n m : Nat) : Option D := if meet f r s g r' s' n m = true then some (.bl true) else none
theorem fit_some {f g : Int → Int} {r s r' s' : Int} {v : D} (h : (four.findSome? fun n => four.findSome? (fitC f r s g r' s' n)) = some v) : v = .bl true ∧ fit f r s g r' s' = true := by
  obtain ⟨n, hn, h1⟩ := List.exists_of_findSome?_eq_some h
  obtain ⟨m, hm, h2⟩ := List.exists_of_findSome?_eq_some h1
  unfold fitC at h2
  split at h2
  · rename_i k
    cases h2
    refine ⟨rfl, ?_⟩
    unfold fit
    rw [List.any_eq_true]
    exact ⟨n, hn, List.any_eq_true.mpr ⟨m, hm, k⟩⟩
  · cases h2
theorem fit_none {f g : Int → Int} {r s r' s' : Int} (h : (four.findSome? fun n => four.findSome? (fitC f r s g r' s' n)) = none) : fit f r s g r' s' = false := by
  unfold fit
  rw [List.any_eq_false]
  intro n hn
  rw [Bool.not_eq_true, List.any_eq_false]
  intro m hm
  have h1 := List.findSome?_eq_none_iff.mp h n hn
  have h2 := List.findSome?_eq_none_iff.mp h1 m hm
  unfold fitC at h2
  split at h2
  · cases h2
  · rename_i k
    exact k
theorem neD_bb (a b : Bool) (Q : D → Prop) : neD (.bl a) (.bl b) Q = Q (.bl (a != b)) := by
  show (_ ∧ _ ∧ Q (.bl (!eqb (.bl a) (.bl b)))) = _
  have e : eqb (.bl a) (.bl b) = (a == b) := rfl
  rw [e]
  simp [pl, bne]
theorem ix_marks (k r s : Int) {n : Nat} (hn : n ∈ four) {Q : D → Prop} (q : Q (.str (mkS k r s n))) : ixD (marksD k r s) (.int n) Q := by
  simp only [List.mem_cons, List.not_mem_nil, or_false] at hn
  rcases hn with rfl | rfl | rfl | rfl
  · exact ⟨_, rfl, q⟩
  · exact ⟨_, rfl, q⟩
  · exact ⟨_, rfl, q⟩
  · exact ⟨_, rfl, q⟩
theorem rp_tl (f : Int → Int) (r s : Int) : rp 64 (tl f r s) = true := by simp [tl, tup5, rp, rps]
theorem fT_eq {f : Int → Int} {r s : Int} : sum5 (fT (tl f r s)) = sum5 f := by
  rw [← sumN_t, ← sumN_t, fT_tl]
theorem len_does_fit : ∀ W ds Q R, sp_does_fit W ds Q R → ds.length = 2 := by
  rintro W ds Q R ⟨x, y, rfl, _⟩
  rfl
theorem law_does_fit : ∀ W ds Q R, sp_does_fit W ds Q R → g_does_fit W R (endsD Q) (startD 6 ds) := by
  rintro W ds Q R ⟨x, y, rfl, hx, hy, o⟩
  have edg : ∀ {x : D} {K : D → Prop}, rp 64 x = true → (isTile x = false → R ⟨"BadTile", [("thing", x)]⟩) → (isTile x = true → K (edgesD (fT x) (rT x) (sT x))) → sp_edges_of W [x] K R := fun {x K} hx k1 k2 => by
    refine ⟨x, rfl, hx, ?_⟩
    cases et : isTile x
    · simpa [edgO, onT, et, outT] using k1 et
    · simpa [edgO, onT, et, outT] using k2 et
  unfold g_does_fit
  refine (show gSeq _ _ _ _ from ?_)
  refine edg hx (fun e => by simpa [fitO, e, outT] using o) fun ex => ?_
  refine edg hy (fun e => by simpa [fitO, ex, onT, e, outT] using o) fun ey => ?_
  have q : Q (.bl (fit (fT x) (rT x) (sT x) (fT y) (rT y) (sT y))) := by simpa [fitO, ex, onT, ey, outT] using o
  have hX := tile_n ex
  have hY := tile_n ey
  have mks : ∀ {x : D} {K : D → Prop}, rp 64 x = true → isTile x = true → K (marksD (sum5 (fT x)) (rT x) (sT x)) → sp_marks_of W [x] K R := fun {x K} hx e k => ⟨x, rfl, hx, by simpa [marksO, onT, e, outT] using k⟩
  have mx : ∀ {K : D → Prop}, K (marksD (sum5 (fT x)) (rT x) (sT x)) → sp_marks_of W [x] K R := mks hx ex
  have my : ∀ {K : D → Prop}, K (marksD (sum5 (fT y)) (rT y) (sT y)) → sp_marks_of W [y] K R := mks hy ey
  have exx := hX.e
  have eyy := hY.e
  generalize fT x = f at *
  generalize rT x = r at *
  generalize sT x = s at *
  generalize fT y = g at *
  generalize rT y = r' at *
  generalize sT y = s' at *
  subst exx eyy
  refine ⟨rfl, ?_⟩
  show gSeq _ _ _ [.d (tl f r s), .d (tl g r' s'), .d (edgesD f r s), .d (edgesD g r' s'), .no, .no]
  refine seq_rng (by decide) (by decide) ?_
  refine forG_find (fun n : Nat => .int n) (fun n => four.findSome? (fitC f r s g r' s' n)) (fun σ => ∃ v w, σ = [.d (tl f r s), .d (tl g r' s'), .d (edgesD f r s), .d (edgesD g r' s'), v, w]) four _ ⟨_, _, rfl⟩ (fun v ev => ?_) (fun ev => ?_) ?_
  · obtain ⟨rfl, e⟩ := fit_some ev
    rw [e] at q
    exact q
  · rintro σ ⟨v, w, rfl⟩
    rw [fit_none ev] at q
    exact q
  · rintro n hn σ ⟨v, w, rfl⟩ E' hrt hv hnx hct
    show gFor _ _ _ E' [.d (tl f r s), .d (tl g r' s'), .d (edgesD f r s), .d (edgesD g r' s'), .d (.int n), w]
    refine ⟨4, rfl, by decide, by decide, ?_⟩
    refine forG_find (fun n : Nat => .int n) (fitC f r s g r' s' n) (fun σ => ∃ w, σ = [.d (tl f r s), .d (tl g r' s'), .d (edgesD f r s), .d (edgesD g r' s'), .d (.int n), w]) four _ ⟨_, rfl⟩ (fun v ev => ?_) (fun ev => ?_) ?_
    · rw [hrt]
      exact hv v ev
    · rintro σ ⟨w, rfl⟩
      exact hnx ev _ ⟨_, _, rfl⟩
    · rintro m hm σ ⟨w, rfl⟩ E2 hrt2 hv2 hnx2 hct2
      simp
      refine ix_edges f r s hn (ix_edges g r' s' hm ?_)
      refine ⟨pl_eg _ _, pl_eg _ _, ?_⟩
      simp
      have e1 : eqb (eg (ef f r s n) (ej r s n)) (eg (ef g r' s' m) (ej r' s' m)) = same f r s g r' s' n m := eqb_eg _ _ _ _
      rw [e1]
      cases h1 : same f r s g r' s' n m
      · simp
        exact hnx2 (by simp [fitC, meet, h1]) _ ⟨_, rfl⟩
      · simp
        refine ⟨f, r, s, n, rfl, four_lt hn, ?_⟩
        refine ⟨g, r', s', m, rfl, four_lt hm, ?_⟩
        dsimp only
        rw [neD_bb]
        simp
        cases h2 : lleft r s n != lleft r' s' m
        · have h3 : lleft r s n = lleft r' s' m := by simpa using h2
          simp [h3]
          exact hnx2 (by simp [fitC, meet, h1, h2]) _ ⟨_, rfl⟩
        · have h3 : ¬ lleft r s n = lleft r' s' m := by simpa using h2
          simp [h3]
          refine mx (ix_marks _ _ _ hn (my (ix_marks _ _ _ hm ?_)))
          simp
          by_cases h4 : mkS (sum5 f) r s n = mkS (sum5 g) r' s' m
          · simp [h4]
            rw [hrt2]
            exact hv2 _ (by simp [fitC, meet, h1, h2, h4])
          · simp [h4]
            exact hnx2 (by simp [fitC, meet, h1, h2, h4]) _ ⟨_, rfl⟩
def fitD (f : Int → Int) (r s : Int) (g : Int → Int) (r' s' : Int) (n m : Nat) : Option D := if same f r s g r' s' n m = true then some (.bl (meetL f r s g r' s' n m)) else none
theorem fitL_eq (f : Int → Int) (r s : Int) (g : Int → Int) (r' s' : Int) : (match four.findSome? (fun n => four.findSome? (fitD f r s g r' s' n)) with | some d => d | none => .bl false) = .bl (fitL f r s g r' s') := by
  have e : (four.findSome? fun n => four.findSome? (fitD f r s g r' s' n)) = (four.findSome? fun n => four.findSome? fun m => if same f r s g r' s' n m = true then some (meetL f r s g r' s' n m) else none).map .bl := by
    rw [List.map_findSome?]
    congr 1
    funext n
    show _ = Option.map _ _
    rw [List.map_findSome?]
    congr 1
    funext m
    simp only [fitD, Function.comp_apply]
    split <;> rfl
  rw [e]
  unfold fitL
  cases (four.findSome? fun n => four.findSome? fun m => if same f r s g r' s' n m = true then some (meetL f r s g r' s' n m) else none) <;> rfl
theorem sm5_comm (f g : Int → Int) : sm5 f g = sm5 g f := by
  rw [Bool.eq_iff_iff, sm5_iff, sm5_iff]
  exact eq_comm
theorem ej_in {r s : Int} (r0 : 0 ≤ r) (r4 : r ≤ 4) (s0 : 0 ≤ s) (s4 : s ≤ 4) (n : Nat) : 0 ≤ ej r s n ∧ ej r s n ≤ 4 ∧ 0 ≤ eo r s n ∧ eo r s n ≤ 4 := by
  match n with
  | 0 => exact ⟨r0, r4, s0, s4⟩
  | 1 => exact ⟨s0, s4, r0, r4⟩
  | 2 => exact ⟨r0, r4, s0, s4⟩
  | n + 3 => exact ⟨s0, s4, r0, r4⟩
theorem seq_iter {σ : List SV} {a : GE} {xs : List D} {gt : GG} {h t : GS} {E : Ed} (ha : Ev σ a (.lst xs)) (q : forG gt h xs { E with nx := t E } σ) : gSeq (gFor (gIter a) gt h) t E σ := ha.run _ q
theorem iter_l {σ : List SV} {a : GE} {xs : List D} {gt : GG} {h : GS} {E : Ed} (ha : Ev σ a (.lst xs)) (q : forG gt h xs E σ) : gFor (gIter a) gt h E σ := ha.run _ q
theorem Ev.bord {σ : List SV} {W : WD} {R : Er → Prop} {fs : GA} {f : Int → Int} {r s : Int} (a : EvA σ fs [tl f r s]) (r0 : 0 ≤ r) (r4 : r ≤ 4) (s0 : 0 ≤ s) (s4 : s ≤ 4) : Ev σ (gCall sp__law_borders W R fs) (.lst (four.map (bd f r s))) := ⟨fun Q q => a.run _ ⟨f, r, s, rfl, r0, r4, s0, s4, q⟩⟩
theorem len__law_do_fit : ∀ W ds Q R, sp__law_do_fit W ds Q R → ds.length = 2 := by
  rintro W ds Q R ⟨f, r, s, g, r', s', rfl, _⟩
  rfl
theorem law__law_do_fit : ∀ W ds Q R, sp__law_do_fit W ds Q R → g__law_do_fit W R (endsD Q) (startD 9 ds) := by
  rintro W ds Q R ⟨f, r, s, g, r', s', rfl, r0, r4, s0, s4, r0', r4', s0', s4', q⟩
  rw [← fitL_eq] at q
  unfold g__law_do_fit
  refine seq_set (x := .lst (four.map (bd g r' s'))) ⟨fun K k => ⟨g, r', s', rfl, r0', r4', s0', s4', k⟩⟩ ?_
  show gSeq _ _ _ [.d (tl f r s), .d (tl g r' s'), .d (.lst (four.map (bd g r' s'))), .no, .no, .no, .no, .no, .no]
  refine seq_iter (Ev.bord (EvA.cons (Ev.var rfl) EvA.nil) r0 r4 s0 s4) ?_
  refine forG_find (bd f r s) (fun n => four.findSome? (fitD f r s g r' s' n)) (fun σ => ∃ v1 v2 v3 v4 v5 v6, σ = [.d (tl f r s), .d (tl g r' s'), .d (.lst (four.map (bd g r' s'))), v1, v2, v3, v4, v5, v6]) four _ ⟨_, _, _, _, _, _, rfl⟩ (fun v ev => ?_) (fun ev => ?_) ?_
  · rw [ev] at q
    exact q
  · rintro σ ⟨v1, v2, v3, v4, v5, v6, rfl⟩
    rw [ev] at q
    exact q
  · rintro n hn σ ⟨v1, v2, v3, v4, v5, v6, rfl⟩ E' hrt hv hnx hct
    refine ⟨_, rfl, rfl, ?_⟩
    show gFor _ _ _ E' [.d (tl f r s), .d (tl g r' s'), .d (.lst (four.map (bd g r' s'))), .d (eg (ef f r s n) (ej r s n)), .d (.int (eo r s n)), .d (.int (eu n)), v4, v5, v6]
    refine iter_l (Ev.var rfl) ?_
    refine forG_find (bd g r' s') (fitD f r s g r' s' n) (fun σ => ∃ v4 v5 v6, σ = [.d (tl f r s), .d (tl g r' s'), .d (.lst (four.map (bd g r' s'))), .d (eg (ef f r s n) (ej r s n)), .d (.int (eo r s n)), .d (.int (eu n)), v4, v5, v6]) four _ ⟨_, _, _, rfl⟩ (fun v ev => ?_) (fun ev => ?_) ?_
    · rw [hrt]
      exact hv v ev
    · rintro σ ⟨v4, v5, v6, rfl⟩
      exact hnx ev _ ⟨_, _, _, _, _, _, rfl⟩
    · rintro m hm σ ⟨v4, v5, v6, rfl⟩ E2 hrt2 hv2 hnx2 hct2
      show gIfS _ _ _ E2 [.d (tl f r s), .d (tl g r' s'), .d (.lst (four.map (bd g r' s'))), .d (eg (ef f r s n) (ej r s n)), .d (.int (eo r s n)), .d (.int (eu n)), .d (bd g r' s' m), v5, v6]
      unfold bd
      simp
      refine ⟨pl_eg _ _, pl_eg _ _, ?_⟩
      have e1 : eqb (.tup [tup5 (ef g r' s' m), .int (ej r' s' m)]) (eg (ef f r s n) (ej r s n)) = same f r s g r' s' n m := (eqb_eg _ _ _ _).trans (by
        unfold same
        rw [sm5_comm]
        congr 1
        exact decide_eq_decide.mpr ⟨Eq.symm, Eq.symm⟩)
      rw [e1]
      obtain ⟨j0, j4, b0, b4⟩ := ej_in r0 r4 s0 s4 n
      obtain ⟨_, _, c0, c4⟩ := ej_in r0' r4' s0' s4' m
      cases h1 : same f r s g r' s' n m
      · simp
        exact hnx2 (by simp [fitD, h1]) _ ⟨_, _, _, rfl⟩
      · simp
        refine ⟨_, _, _, rfl, j0, j4, b0, b4, ?_⟩
        refine ⟨_, _, _, rfl, j0, j4, c0, c4, ?_⟩
        dsimp only
        rw [neD_bb]
        cases h2 : lhand (ej r s n) (eo r s n) (eu n) != lhand (ej r s n) (eo r' s' m) (eu m)
        · simp
          rw [hrt2]
          exact hv2 _ (by simp [fitD, meetL, h1, h2])
        · simp
          refine ⟨f, r, s, _, _, rfl, ?_⟩
          refine ⟨g, r', s', _, _, rfl, ?_⟩
          simp
          rw [hrt2]
          exact hv2 _ (by simp [fitD, meetL, h1, h2])
/-- where the edges' feet lie beside the tile's -/
def ev (r s : Int) : Nat → Int → Int
  | 2 => fun i => if i = s then 1 else 0
  | 3 => fun i => if i = r then 1 else 0
  | _ => fun _ => 0
theorem ef_ev (f : Int → Int) (r s : Int) {n : Nat} (hn : n ∈ four) (i : Int) : ef f r s n i = f i + ev r s n i := by
  simp only [List.mem_cons, List.not_mem_nil, or_false] at hn
  rcases hn with rfl | rfl | rfl | rfl
  · simp [ef, ev]
  · simp [ef, ev]
  · rfl
  · rfl
/-- two edges are the same, told by one pair that is -/
def sameV (r s r' s' : Int) (n0 m0 n m : Nat) : Bool := decide (ev r s n 0 - ev r' s' m 0 = ev r s n0 0 - ev r' s' m0 0 ∧ ev r s n 1 - ev r' s' m 1 = ev r s n0 1 - ev r' s' m0 1 ∧ ev r s n 2 - ev r' s' m 2 = ev r s n0 2 - ev r' s' m0 2 ∧ ev r s n 3 - ev r' s' m 3 = ev r s n0 3 - ev r' s' m0 3 ∧ ev r s n 4 - ev r' s' m 4 = ev r s n0 4 - ev r' s' m0 4) && decide (ej r s n = ej r' s' m)
theorem same_V {f g : Int → Int} {r s r' s' : Int} {n0 m0 n m : Nat} (hn0 : n0 ∈ four) (hm0 : m0 ∈ four) (hn : n ∈ four) (hm : m ∈ four) (h : same f r s g r' s' n0 m0 = true) : same f r s g r' s' n m = sameV r s r' s' n0 m0 n m := by
  unfold same at h ⊢
  unfold sameV
  simp only [Bool.and_eq_true, sm5, decide_eq_true_eq, ef_ev f r s hn0, ef_ev g r' s' hm0] at h
  congr 1
  unfold sm5
  refine decide_eq_decide.mpr ?_
  simp only [ef_ev f r s hn, ef_ev g r' s' hm]
  omega
def evs (r s : Int) (n : Nat) : Int := if n < 2 then 0 else 1
theorem sum_ef {f : Int → Int} {r s : Int} (r0 : 0 ≤ r) (r4 : r ≤ 4) (s0 : 0 ≤ s) (s4 : s ≤ 4) {n : Nat} (hn : n ∈ four) : sum5 (ef f r s n) = sum5 f + evs r s n := by
  simp only [List.mem_cons, List.not_mem_nil, or_false] at hn
  rcases hn with rfl | rfl | rfl | rfl
  · simp [ef, evs]
  · simp [ef, evs]
  · exact rz_sum s0 s4
  · exact rz_sum r0 r4
def meetV (k k' r s r' s' : Int) (n0 m0 n m : Nat) : Bool := sameV r s r' s' n0 m0 n m && (lleft r s n != lleft r' s' m) && decide (mkS k r s n = mkS k' r' s' m)
def meetLV (k k' r s r' s' : Int) (n m : Nat) : Bool := (lhand (ej r s n) (eo r s n) (eu n) != lhand (ej r s n) (eo r' s' m) (eu m)) && decide (markL k r s (k + evs r s n) = markL k' r' s' (k + evs r s n))
def chk (k k' r s r' s' : Int) (n0 m0 : Nat) : Bool := (four.any fun n => four.any fun m => meetV k k' r s r' s' n0 m0 n m) == (four.findSome? fun n => four.findSome? fun m => if sameV r s r' s' n0 m0 n m = true then some (meetLV k k' r s r' s' n m) else none).getD false
def dirs : List (Int × Int) := [(0, 1), (0, 2), (0, 3), (0, 4), (1, 2), (1, 3), (1, 4), (2, 3), (2, 4), (3, 4)]
def okAll (p q : Int × Int) : Bool := four.all fun n0 => four.all fun m0 => !(decide (ej p.1 p.2 n0 = ej q.1 q.2 m0)) || [1, 2].all fun k : Int => let k' := k + evs p.1 p.2 n0 - evs q.1 q.2 m0; !(decide (k' = 1 ∨ k' = 2)) || chk k k' p.1 p.2 q.1 q.2 n0 m0
theorem okAll_t : (dirs.all fun p => dirs.all fun q => okAll p q) = true := by decide +kernel
theorem any_congr' {l : List Nat} {p q : Nat → Bool} (h : ∀ a ∈ l, p a = q a) : l.any p = l.any q := by
  induction l with
  | nil => rfl
  | cons a l ih =>
    rw [List.any_cons, List.any_cons, h a List.mem_cons_self, ih fun b m => h b (List.mem_cons_of_mem _ m)]
theorem find_congr' {l : List Nat} {α : Type} {p q : Nat → Option α} (h : ∀ a ∈ l, p a = q a) : l.findSome? p = l.findSome? q := by
  induction l with
  | nil => rfl
  | cons a l ih =>
    rw [List.findSome?_cons, List.findSome?_cons, h a List.mem_cons_self, ih fun b m => h b (List.mem_cons_of_mem _ m)]
theorem dir_mem {r s : Int} (r0 : 0 ≤ r) (rs : r < s) (s4 : s ≤ 4) : (r, s) ∈ dirs := by
  simp [dirs]
  omega
theorem sum_tup5 {f g : Int → Int} (h : tup5 f = tup5 g) : sum5 f = sum5 g := by
  rw [← sumN_t, h, sumN_t]
theorem ev01 (r s : Int) (n : Nat) : evs r s n = 0 ∨ evs r s n = 1 := by
  unfold evs
  split
  · exact .inl rfl
  · exact .inr rfl
theorem fit_eq {x y : D} {f g : Int → Int} {r s r' s' : Int} (hx : TileD x f r s) (hy : TileD y g r' s') : fit f r s g r' s' = fitL f r s g r' s' := by
  obtain ⟨_, k, r0, rs, s4⟩ := hx
  obtain ⟨_, k', r0', rs', s4'⟩ := hy
  by_cases h : ∃ n0 ∈ four, ∃ m0 ∈ four, same f r s g r' s' n0 m0 = true
  · obtain ⟨n0, hn0, m0, hm0, h⟩ := h
    have e1 : fit f r s g r' s' = four.any fun n => four.any fun m => meetV (sum5 f) (sum5 g) r s r' s' n0 m0 n m :=
      any_congr' fun n hn => any_congr' fun m hm => by
        unfold meet meetV
        rw [same_V hn0 hm0 hn hm h]
    have e2 : fitL f r s g r' s' = (four.findSome? fun n => four.findSome? fun m => if sameV r s r' s' n0 m0 n m = true then some (meetLV (sum5 f) (sum5 g) r s r' s' n m) else none).getD false := by
      unfold fitL
      congr 1
      refine find_congr' fun n hn => find_congr' fun m hm => ?_
      rw [same_V hn0 hm0 hn hm h]
      unfold meetL meetLV
      rw [sum_ef (by omega) (by omega) (by omega) (by omega) hn]
    have h2 := h
    unfold same at h2
    simp only [Bool.and_eq_true, decide_eq_true_eq] at h2
    have e3 := sum_tup5 (sm5_iff.mp h2.1)
    rw [sum_ef (by omega) (by omega) (by omega) (by omega) hn0, sum_ef (by omega) (by omega) (by omega) (by omega) hm0] at e3
    have a1 := List.all_eq_true.mp okAll_t (r, s) (dir_mem r0 rs s4)
    have a2 := List.all_eq_true.mp a1 (r', s') (dir_mem r0' rs' s4')
    have a3 := List.all_eq_true.mp (List.all_eq_true.mp a2 n0 hn0) m0 hm0
    simp only [h2.2, decide_true, Bool.not_true, Bool.false_or] at a3
    have a4 := List.all_eq_true.mp a3 (sum5 f) (by simp; exact k)
    have e4 : sum5 f + evs r s n0 - evs r' s' m0 = sum5 g := by omega
    simp only [e4, decide_eq_true k', Bool.not_true, Bool.false_or] at a4
    rw [e1, e2]
    exact beq_iff_eq.mp a4
  · have no : ∀ n ∈ four, ∀ m ∈ four, same f r s g r' s' n m = false := fun n hn m hm => by
      cases e : same f r s g r' s' n m
      · rfl
      · exact absurd ⟨n, hn, m, hm, e⟩ h
    have e1 : fit f r s g r' s' = false := by
      unfold fit
      rw [List.any_eq_false]
      intro n hn
      rw [Bool.not_eq_true, List.any_eq_false]
      intro m hm
      simp [meet, no n hn m hm]
    have e2 : (four.findSome? fun n => four.findSome? fun m => if same f r s g r' s' n m = true then some (meetL f r s g r' s' n m) else none) = none := by
      rw [List.findSome?_eq_none_iff]
      intro n hn
      rw [List.findSome?_eq_none_iff]
      intro m hm
      simp [no n hn m hm]
    rw [e1]
    unfold fitL
    rw [e2]
    rfl
theorem meet_comm (f : Int → Int) (r s : Int) (g : Int → Int) (r' s' : Int) (n m : Nat) : meet f r s g r' s' n m = meet g r' s' f r s m n := by
  unfold meet same
  rw [sm5_comm, show decide (ej r s n = ej r' s' m) = decide (ej r' s' m = ej r s n) from decide_eq_decide.mpr eq_comm, show decide (mkS (sum5 f) r s n = mkS (sum5 g) r' s' m) = decide (mkS (sum5 g) r' s' m = mkS (sum5 f) r s n) from decide_eq_decide.mpr eq_comm, show (lleft r s n != lleft r' s' m) = (lleft r' s' m != lleft r s n) from by cases lleft r s n <;> cases lleft r' s' m <;> rfl]
theorem fit_comm (f : Int → Int) (r s : Int) (g : Int → Int) (r' s' : Int) : fit f r s g r' s' = fit g r' s' f r s := by
  rw [Bool.eq_iff_iff]
  unfold fit
  simp only [List.any_eq_true]
  constructor
  · rintro ⟨n, hn, m, hm, h⟩
    exact ⟨m, hm, n, hn, by rw [meet_comm]; exact h⟩
  · rintro ⟨n, hn, m, hm, h⟩
    exact ⟨m, hm, n, hn, by rw [meet_comm]; exact h⟩
def selfOk (p : Int × Int) : Bool := four.all fun n => four.all fun m => !(sameV p.1 p.2 p.1 p.2 0 0 n m) || (lleft p.1 p.2 n == lleft p.1 p.2 m)
theorem self_ok : (dirs.all selfOk) = true := by decide +kernel
theorem fit_self {x : D} {f : Int → Int} {r s : Int} (hx : TileD x f r s) : fit f r s f r s = false := by
  obtain ⟨_, k, r0, rs, s4⟩ := hx
  have h : same f r s f r s 0 0 = true := by
    unfold same
    rw [sm5_iff.mpr rfl]
    simp
  have a1 := List.all_eq_true.mp self_ok (r, s) (dir_mem r0 rs s4)
  unfold fit
  rw [List.any_eq_false]
  intro n hn
  rw [Bool.not_eq_true, List.any_eq_false]
  intro m hm
  have a2 := List.all_eq_true.mp (List.all_eq_true.mp a1 n hn) m hm
  unfold meet
  rw [same_V (by simp) (by simp) hn hm h]
  cases h3 : sameV r s r s 0 0 n m
  · simp
  · simp only [h3, Bool.not_true, Bool.false_or] at a2
    simp [beq_iff_eq.mp a2]
/-- a tile lies left of its edge as the angles say -/
def handOk (p : Int × Int) : Bool := four.all fun n => lleft p.1 p.2 n == lhand (ej p.1 p.2 n) (eo p.1 p.2 n) (eu n)
theorem hand_ok : (dirs.all handOk) = true := by decide +kernel
theorem hand_eq {x : D} {f : Int → Int} {r s : Int} (hx : TileD x f r s) {n : Nat} (hn : n ∈ four) : lleft r s n = lhand (ej r s n) (eo r s n) (eu n) := by
  obtain ⟨_, k, r0, rs, s4⟩ := hx
  have a1 := List.all_eq_true.mp hand_ok (r, s) (dir_mem r0 rs s4)
  exact beq_iff_eq.mp (List.all_eq_true.mp a1 n hn)
def markOk (p : Int × Int) : Bool := [1, 2].all fun k : Int => (decide (near p.1 p.2 = decide (p.2 - p.1 = 1 ∨ p.2 - p.1 = 4))) && four.all fun n => decide (markL k p.1 p.2 (k + evs p.1 p.2 n) = mkS k p.1 p.2 n)
theorem mark_ok : (dirs.all markOk) = true := by decide +kernel
theorem mark_eq {x : D} {f : Int → Int} {r s : Int} (hx : TileD x f r s) : near r s = decide (s - r = 1 ∨ s - r = 4) ∧ ∀ n ∈ four, markL (sum5 f) r s (sum5 (ef f r s n)) = mkS (sum5 f) r s n := by
  obtain ⟨_, k, r0, rs, s4⟩ := hx
  have a1 := List.all_eq_true.mp mark_ok (r, s) (dir_mem r0 rs s4)
  have a2 := List.all_eq_true.mp a1 (sum5 f) (by simp; exact k)
  simp only [Bool.and_eq_true, decide_eq_true_eq] at a2
  refine ⟨a2.1, fun n hn => ?_⟩
  rw [sum_ef (by omega) (by omega) (by omega) (by omega) hn]
  exact of_decide_eq_true (List.all_eq_true.mp a2.2 n hn)
theorem law__law_told : ∀ W act Q f0, sp__law_told W act Q → g__law_told W f0 act (endsD Q) (startD 3 [.opq (.ref f0)]) := by
  rintro W act Q f0 ⟨o, ha, q⟩
  simp [g__law_told, startD]
  refine ha _ _ ?_
  cases o with
  | ok d => simpa [outT, toldD] using q
  | tile x =>
    simp [outT, hdG, gErF, gIsE, knownE, clauseStart]
    simpa [toldD] using q
  | edge x =>
    simp [outT, hdG, gErF, gIsE, knownE, clauseStart]
    simpa [toldD] using q
theorem pok_of {n m b : Nat} {ys : List D} (h : ∀ y ∈ ys, Pok n m b y) : Pok (n + 1) m ((b + 2) * ys.length + 3) (.tup ys) ∧ Pok (n + 1) m ((b + 2) * ys.length + 3) (.lst ys) := by
  have : rps n ys = true ∧ sms (2 ^ m) ys = true ∧ rszs ys ≤ (b + 2) * ys.length := by
    induction ys with
    | nil => simp [rps, sms, rszs]
    | cons y ys ih =>
      obtain ⟨h1, h2, h3⟩ := ih fun z m => h z (List.mem_cons_of_mem _ m)
      have hy := h y List.mem_cons_self
      have hz := hy.z
      refine ⟨by simp [rps, hy.r, h1], by simp [sms, hy.b, h2], ?_⟩
      simp only [rszs, List.length_cons, Nat.mul_add, Nat.mul_one] at h3 ⊢
      omega
  obtain ⟨h1, h2, h3⟩ := this
  exact ⟨⟨by simpa only [rp] using h1, by simpa only [sm] using h2, by simp only [rsz]; omega⟩, ⟨by simpa only [rp] using h1, by simpa only [sm] using h2, by simp only [rsz]; omega⟩⟩
theorem tre_up : ∀ {n : Nat} {x : D}, Tre n x → Tre (n + 1) x
  | 0, _, h => .inl h
  | n + 1, _, .inl h => .inl h
  | n + 1, _, .inr ⟨xs, e, hl, h⟩ => .inr ⟨xs, e, hl, fun y m => tre_up (h y m)⟩
theorem tre0 {x : D} (h : Tre 0 x) : Pok 0 240 4301 x := by
  obtain ⟨i, rfl, hi⟩ := h
  exact (pok_int hi).up (by decide) (by decide) (by decide)
theorem tre1 {x : D} (h : Tre 1 x) : Pok 1 240 21600 x := by
  rcases h with h | ⟨xs, rfl, hl, h⟩
  · exact (tre0 h).up (by decide) (by decide) (by decide)
  · exact (pok_of fun y m => tre0 (h y m)).1.up (by decide) (by decide) (by omega)
theorem tre2 {x : D} (h : Tre 2 x) : Pok 2 240 110000 x := by
  rcases h with h | ⟨xs, rfl, hl, h⟩
  · exact (tre0 h).up (by decide) (by decide) (by decide)
  · exact (pok_of fun y m => tre1 (h y m)).1.up (by decide) (by decide) (by omega)
theorem len__law_odd : ∀ W ds Q R, sp__law_odd W ds Q R → ds.length = 2 := by
  rintro W ds Q R ⟨d, l, x, _, rfl, _⟩
  rfl
theorem law__law_odd : ∀ W ds Q R, sp__law_odd W ds Q R → g__law_odd W R (endsD Q) (startD 3 ds) := by
  rintro W ds Q R ⟨d, l, x, rfl, rfl, hx, q⟩
  have pick : ∀ xs : List D, 0 < xs.length → xs.length < 1000 → (∀ y ∈ xs, Pok 5 260 250000 y) → sp__law_pick (some (d, l)) [dkD d, .lst xs] Q R := fun xs h1 h2 h3 => ⟨d, l, xs, rfl, .inl rfl, h1, Nat.lt_trans h2 (by decide), fun y m => q y (h3 y m)⟩
  rcases hx with ⟨i, rfl, hi⟩ | ⟨xs, rfl, hl, hxs⟩
  · unfold g__law_odd
    refine' seq_set ?a1 ?b1
    case a1 =>
      repeat' first | exact Ev.c | exact EvA.nil | apply EvA.cons | apply Ev.lst | apply Ev.tup | apply Ev.neg | apply Ev.dic
      all_goals simp
    refine' seq_set ?a2 ?b2
    case a2 =>
      refine' Ev.addL (Ev.var rfl) ?x2 ?y2
      case x2 =>
        repeat' first | exact Ev.c | exact EvA.nil | apply EvA.cons | apply Ev.lst | apply Ev.tup | apply Ev.neg | apply Ev.dic
        all_goals simp
      simp
    refine' seq_set ?a3 ?b3
    case a3 =>
      refine' Ev.addL (Ev.var rfl) ?x3 ?y3
      case x3 =>
        repeat' first | exact Ev.c | exact EvA.nil | apply EvA.cons | apply Ev.lst | apply Ev.tup | apply Ev.neg | apply Ev.dic
        all_goals simp
      simp
    refine' seq_f (Ev.isi (Ev.var rfl) (by decide) rfl (by rfl)) ?_
    refine' seq_t (Ev.isi (Ev.var rfl) (by decide) rfl (by rfl)) ?_
    refine' seq_set ?a4 ?b4
    case a4 =>
      refine' Ev.addL (Ev.var rfl) ?x4 ?y4
      case x4 =>
        refine' Ev.mulL ?u (by decide) (by decide) ?v
        case u =>
          refine' Ev.lst (EvA.cons (Ev.addI (Ev.var rfl) Ev.c) (EvA.cons (Ev.subI (Ev.var rfl) Ev.c) (EvA.cons (Ev.neg (Ev.var rfl)) (EvA.cons (Ev.eqI (Ev.var rfl) Ev.c) (EvA.cons (Ev.lst (EvA.cons (Ev.var rfl) EvA.nil) (by simp)) (EvA.cons (Ev.tup (EvA.cons (Ev.var rfl) EvA.nil) (by simp)) (EvA.cons (Ev.strI (Ev.var rfl) ?z) (EvA.cons (Ev.eqI (Ev.var rfl) Ev.c) EvA.nil)))))))) (by simp)
          exact Nat.lt_of_lt_of_le (hi.mono (by decide : 230 ≤ 240)) c60
        exact show 8 * 4 ≤ sizeLine by decide
      exact Nat.le_trans (show _ ≤ 100 by simp) (by decide)
    rw [show (4 : Int).toNat = 4 from rfl, show ∀ xs : List D, (List.replicate 4 xs).flatten = xs ++ (xs ++ (xs ++ (xs ++ []))) from fun xs => rfl]
    refine pick _ (by simp) (by simp) ?_
    have up : ∀ j : Int, -10 ≤ j → j ≤ 10 → Sz 240 (i + j) := fun j h0 h1 => by
      have h2 : i.natAbs < 2 ^ 230 := hi
      show (i + j).natAbs < 2 ^ 240
      have e : 2 ^ 240 = 1024 * 2 ^ 230 := by decide
      rw [e]
      generalize 2 ^ 230 = N at *
      omega
    have pi : ∀ {j : Int}, Sz 240 j → Pok 5 260 250000 (.int j) := fun h => (pok_int h).up (by decide) (Nat.le_of_ble_eq_true rfl) (by decide)
    have one := int_tup (ys := [.int i]) (fun y m => ⟨i, List.mem_singleton.mp m, hi.mono (by decide)⟩) (by simp)
    simp only [List.forall_mem_append, List.forall_mem_cons, List.not_mem_nil, false_implies, implies_true, and_true]
    have c1 : Pok 5 260 250000 (.int (i + 1)) := pi (up 1 (by decide) (by decide))
    have c2 : Pok 5 260 250000 (.int (i - 1)) := pi (up (-1) (by decide) (by decide))
    have c3 : Pok 5 260 250000 (.int (-i)) := pi ((hi.mono (by decide)).neg)
    have c4 : Pok 5 260 250000 (.bl (decide (i = 1))) := ⟨by simp [rp], by simp [sm], by simp [rsz]⟩
    have c5 : Pok 5 260 250000 (.str (toString i)) := (pok_text (m := 260) (Nat.lt_of_lt_of_le (hi.mono (by decide : 230 ≤ 240)) c60)).up (by decide) (by decide) (by decide)
    have c6 : Pok 5 260 250000 (.bl (decide (i = 0))) := ⟨by simp [rp], by simp [sm], by simp [rsz]⟩
    have c7 := one.1.up (n' := 5) (m' := 260) (s' := 250000) (by decide) (by decide) (by decide)
    have c8 := one.2.up (n' := 5) (m' := 260) (s' := 250000) (by decide) (by decide) (by decide)
    repeat' apply And.intro
    all_goals first | exact c1 | exact c2 | exact c3 | exact c4 | exact c5 | exact c6 | exact c7 | exact c8 | exact ⟨by decide +kernel, by decide +kernel, by decide +kernel⟩
  · unfold g__law_odd
    refine' seq_set ?a11 ?b11
    case a11 =>
      repeat' first | exact Ev.c | exact EvA.nil | apply EvA.cons | apply Ev.lst | apply Ev.tup | apply Ev.neg | apply Ev.dic
      all_goals simp
    refine' seq_set ?a12 ?b12
    case a12 =>
      refine' Ev.addL (Ev.var rfl) ?x12 ?y12
      case x12 =>
        repeat' first | exact Ev.c | exact EvA.nil | apply EvA.cons | apply Ev.lst | apply Ev.tup | apply Ev.neg | apply Ev.dic
        all_goals simp
      simp
    refine' seq_set ?a13 ?b13
    case a13 =>
      refine' Ev.addL (Ev.var rfl) ?x13 ?y13
      case x13 =>
        repeat' first | exact Ev.c | exact EvA.nil | apply EvA.cons | apply Ev.lst | apply Ev.tup | apply Ev.neg | apply Ev.dic
        all_goals simp
      simp
    refine' seq_t (Ev.isi (Ev.var rfl) (by decide) rfl (by rfl)) ?_
    refine' seq_set ?a19 ?b19
    case a19 =>
      refine' Ev.addL (Ev.var rfl) ?x19 ?y19
      case x19 =>
        refine' Ev.mul3 ?u9 ?v9
        case u9 =>
          refine' Ev.lst (EvA.cons (Ev.listT (Ev.var rfl)) (EvA.cons (Ev.addT (Ev.var rfl) (Ev.tup (EvA.cons Ev.c EvA.nil) (by simp)) ?z1) (EvA.cons (Ev.slLo (Ev.var rfl) Ev.c) (EvA.cons (Ev.slHi (Ev.var rfl) (Ev.neg Ev.c)) (EvA.cons (Ev.rev (Ev.var rfl)) (EvA.cons (Ev.tup (EvA.cons (Ev.var rfl) EvA.nil) (by simp)) (EvA.cons (Ev.addT (Ev.slHi (Ev.var rfl) Ev.c) (Ev.var rfl) ?z2) (EvA.cons (Ev.addT (Ev.slLo (Ev.var rfl) Ev.c) (Ev.slHi (Ev.var rfl) Ev.c) ?z3) EvA.nil)))))))) (by simp)
          case z1 => exact Nat.le_trans (by simp; omega : xs.length + [D.int 0].length ≤ 20) (by decide)
          case z2 => exact Nat.le_trans (by have := cut_len xs none (some 1); omega : _ ≤ 20) (by decide)
          case z3 => exact Nat.le_trans (by have := cut_len xs none (some 1); have := cut_len xs (some 1) none; omega : _ ≤ 20) (by decide)
        simp
      simp
    refine pick _ (by simp) (by simp) ?_
    have hy : ∀ y ∈ xs, Pok 1 240 21600 y := fun y m => tre1 (hxs y m)
    have h0 : Pok 1 240 21600 (D.int 0) := ⟨by decide +kernel, by decide +kernel, by decide +kernel⟩
    have mm : ∀ ys : List D, (∀ y ∈ ys, y ∈ xs ∨ y = .int 0) → ys.length ≤ 11 → Pok 5 260 250000 (.tup ys) ∧ Pok 5 260 250000 (.lst ys) := fun ys h1 h2 => by
      have := pok_of (ys := ys) (fun y m => (h1 y m).elim (hy y) fun e => e ▸ h0)
      exact ⟨this.1.up (by decide) (by decide) (by omega), this.2.up (by decide) (by decide) (by omega)⟩
    have l1 := cut_len xs (some 1) none
    have l2 := cut_len xs none (some (-1))
    have l3 := cut_len xs none (some 1)
    have c0 := mm xs (fun y m => .inl m) (by omega)
    have c1 := c0.2
    have c2 := (mm (xs ++ [.int 0]) (fun y m => (List.mem_append.mp m).imp id List.mem_singleton.mp) (by simp; omega)).1
    have c3 := (mm (cutG xs (some 1) none) (fun y m => .inl (cut_mem m)) (by omega)).1
    have c4 := (mm (cutG xs none (some (-1))) (fun y m => .inl (cut_mem m)) (by omega)).1
    have c5 := (mm xs.reverse (fun y m => .inl (List.mem_reverse.mp m)) (by simp; omega)).1
    have c6 : Pok 5 260 250000 (.tup [.tup xs]) := by
      have hp : Pok 2 240 110000 (.tup xs) := tre2 (.inr ⟨xs, rfl, hl, hxs⟩)
      exact (pok_of (ys := [.tup xs]) fun y m => by rw [List.mem_singleton.mp m]; exact hp).1.up (by decide) (by decide) (by simp)
    have c7 := (mm (cutG xs none (some 1) ++ xs) (fun y m => .inl ((List.mem_append.mp m).elim cut_mem id)) (by simp; omega)).1
    have c8 := (mm (cutG xs (some 1) none ++ cutG xs none (some 1)) (fun y m => .inl ((List.mem_append.mp m).elim cut_mem cut_mem)) (by simp; omega)).1
    simp only [List.forall_mem_append, List.forall_mem_cons, List.not_mem_nil, false_implies, implies_true, and_true]
    repeat' apply And.intro
    all_goals first | exact c1 | exact c2 | exact c3 | exact c4 | exact c5 | exact c6 | exact c7 | exact c8 | exact ⟨by decide +kernel, by decide +kernel, by decide +kernel⟩
theorem len__law_bent : ∀ n W ds Q R, sp__law_bent n W ds Q R → ds.length = 2 := by
  rintro n W ds Q R ⟨d, l, x, _, rfl, _⟩
  rfl
theorem tre_2 {n : Nat} (hn : n ≤ 2) {x : D} (h : Tre n x) : Tre 2 x := by
  match n, hn with
  | 0, _ => exact tre_up (tre_up h)
  | 1, _ => exact tre_up h
  | 2, _ => exact h
theorem odd_in {d l : Addr} {x : D} {Q : D → Prop} {R : Er → Prop} {n : Nat} (hn : n ≤ 2) (h : Tre n x) (q : ∀ y, Pok (5 + n) 260 (250000 + n * 110000) y → Q y) : sp__law_odd (some (d, l)) [dkD d, x] Q R := ⟨d, l, x, rfl, rfl, tre_2 hn h, fun y hy => q y (hy.up (by omega) (by decide) (by omega))⟩
theorem law__law_bent_0 : ∀ W ds Q R, sp__law_bent 0 W ds Q R → g__law_bent (fun _ _ _ _ => False) W R (endsD Q) (startD 3 ds) := by
  rintro W ds Q R ⟨d, l, x, rfl, rfl, hn, hx, q⟩
  obtain ⟨i, rfl, hi⟩ := id hx
  simp [g__law_bent, startD, isiB, tyD, isTb]
  exact odd_in hn hx q
theorem tre_pl0 {x : D} (h : Tre 0 x) (n : Nat) : pl n x = true := by
  obtain ⟨i, rfl, _⟩ := h
  cases n <;> rfl
theorem tre_pl1 {x : D} (h : Tre 1 x) (n : Nat) : pl (n + 1) x = true := by
  rcases h with h | ⟨xs, rfl, hl, h⟩
  · exact tre_pl0 h _
  · simp only [pl, pls_all, List.all_eq_true]
    exact fun y m => tre_pl0 (h y m) n
theorem tre_pl {x : D} (h : Tre 2 x) : pl 64 x = true := by
  rcases h with h | ⟨xs, rfl, hl, h⟩
  · exact tre_pl0 h _
  · show pls 63 xs = true
    rw [pls_all, List.all_eq_true]
    exact fun y m => tre_pl1 (h y m) 62
theorem cut_two {xs : List D} {r : Int} (hr : r.toNat < xs.length) (r0 : 0 ≤ r) : (cutG xs none (some r)).length ≤ r.toNat ∧ (cutG xs (some (r + 1)) none).length ≤ xs.length - r.toNat - 1 := by
  unfold cutG
  simp only [List.length_take, List.length_drop, HT.sIx]
  constructor <;> (repeat' split) <;> omega
theorem tre_pok {n : Nat} (hn : n ≤ 2) {xs : List D} (hl : xs.length ≤ 5) (h : ∀ y ∈ xs, Tre n y) (hn2 : n + 1 ≤ 2) (a b : Option Int) : rps 1 (cutG xs a b) = true ∧ sms (2 ^ 240) (cutG xs a b) = true ∧ rszs (cutG xs a b) ≤ 21602 * (cutG xs a b).length := by
  have hy : ∀ y ∈ cutG xs a b, Pok 1 240 21600 y := fun y m => by
    have := h y (cut_mem m)
    match n, hn2 with
    | 0, _ => exact tre1 (tre_up this)
    | 1, _ => exact tre1 this
  have := pok_of hy
  have hz := this.1.z
  refine ⟨by simpa only [rp] using this.1.r, by simpa only [sm] using this.1.b, ?_⟩
  simp only [rsz] at hz
  omega
theorem law__law_bent : ∀ n W ds Q R, sp__law_bent (n + 1) W ds Q R → g__law_bent (sp__law_bent n) W R (endsD Q) (startD 3 ds) := by
  rintro n W ds Q R ⟨d, l, x, rfl, rfl, hn, hx, q⟩
  rcases id hx with ⟨i, rfl, hi⟩ | ⟨xs, rfl, hl, hxs⟩
  · simp [g__law_bent, startD, isiB, tyD, isTb]
    exact odd_in hn hx q
  · simp [g__law_bent, startD, isiB, tyD, isTb]
    have hp : pl 64 (.tup xs) = true := tre_pl (tre_2 hn hx)
    refine ⟨hp, by decide, ?_⟩
    split
    · exact odd_in hn hx q
    · rename_i he
      have hpos : 0 < xs.length := by
        cases xs with
        | nil => exact absurd (show eqb (.tup []) (.tup []) = true by decide) he
        | cons _ _ => simp
      refine dr (by decide) (by decide) fun r r0 r1 => ?_
      simp
      split
      · exact odd_in hn hx q
      · refine dr (by omega) (by omega) fun r r0 r1 => ?_
        simp [slD]
        have hr : r.toNat < xs.length := by omega
        have hm : Tre n xs[r.toNat] := hxs _ (List.getElem_mem hr)
        refine ⟨xs[r.toNat], by simp [atI, ixN, r0, r1, hr], ?_⟩
        refine ⟨d, l, _, rfl, rfl, by omega, hm, fun y hy => ?_⟩
        obtain ⟨l1, l2⟩ := cut_two hr r0
        obtain ⟨p1, p2, p3⟩ := tre_pok (by omega) hl hxs hn none (some r)
        obtain ⟨u1, u2, u3⟩ := tre_pok (by omega) hl hxs hn (some (r + 1)) none
        refine ⟨Nat.le_trans (by omega : _ ≤ 20) (by decide), Nat.le_trans (by omega : _ ≤ 20) (by decide), q _ ⟨?_, ?_, ?_⟩⟩
        · have e : 5 + (n + 1) = (5 + n) + 1 := by omega
          rw [e]
          simp only [rp, rps_all, List.all_append, List.all_cons, Bool.and_eq_true]
          exact ⟨by rw [← rps_all]; exact rps_mono 1 _ _ (by omega) p1, hy.r, by rw [← rps_all]; exact rps_mono 1 _ _ (by omega) u1⟩
        · simp only [sm, sms_all, List.all_append, List.all_cons, Bool.and_eq_true]
          exact ⟨by rw [← sms_all]; exact sms_mono _ _ _ (Nat.pow_le_pow_right (by decide) (by decide)) p2, hy.b, by rw [← sms_all]; exact sms_mono _ _ _ (Nat.pow_le_pow_right (by decide) (by decide)) u2⟩
        · have := hy.z
          simp only [rsz, rszs_app, rszs]
          omega
theorem len__law_maybe : ∀ W ds Q R, sp__law_maybe W ds Q R → ds.length = 2 := by
  rintro W ds Q R ⟨d, l, x, _, rfl, _⟩
  rfl
theorem tre_pk {x : D} (h : Tre 2 x) : Pk x := (tre2 h).up (by decide) (by decide) (by decide)
theorem law__law_maybe : ∀ W ds Q R, sp__law_maybe W ds Q R → g__law_maybe W R (endsD Q) (startD 2 ds) := by
  rintro W ds Q R ⟨d, l, x, rfl, rfl, hx, q⟩
  simp [g__law_maybe, startD]
  refine dr (by decide) (by decide) fun r r0 r1 => ?_
  simp
  split
  · exact ⟨d, l, x, rfl, rfl, by decide, hx, fun y hy => q y (hy.up (by decide) (by decide) (by decide))⟩
  · exact q _ (tre_pk hx)
theorem len__law_drawn : ∀ W ds Q R, sp__law_drawn W ds Q R → ds.length = 1 := by
  rintro W ds Q R ⟨d, l, _, rfl, _⟩
  rfl
theorem law__law_drawn : ∀ W ds Q R, sp__law_drawn W ds Q R → g__law_drawn W R (endsD Q) (startD 6 ds) := by
  rintro W ds Q R ⟨d, l, rfl, rfl, q⟩
  have int : ∀ R Qd, (∀ i, Sz 200 i → Qd (.int i)) → sp__law_integer (some (d, l)) [dkD d, .int 9] Qd R := fun R Qd h => ⟨d, l, 9, rfl, rfl, by decide, by decide, h⟩
  simp [g__law_drawn, startD, ints5, lcG]
  refine int _ _ fun a ha => ?_
  try simp
  refine int _ _ fun b hb => ?_
  try simp
  refine int _ _ fun c hc => ?_
  try simp
  refine int _ _ fun e he => ?_
  try simp
  refine int _ _ fun f hf => ?_
  try simp
  refine dr (by decide) (by decide) fun r r0 r1 => ?_
  refine dr (by decide) (by decide) fun t t0 t1 => ?_
  have key : ∀ (x : Int) (u : Int), 0 ≤ u → u < 4 → Sz 200 x → Sz 220 (x + 1 + u - (a + (b + (c + (e + f))))) := fun x u u0 u1 hx => by
    have h1 : (x + 1 + u - (a + (b + (c + (e + f))))).natAbs < 10 * 2 ^ 200 := by
      have ha' : a.natAbs < 2 ^ 200 := ha
      have hb' : b.natAbs < 2 ^ 200 := hb
      have hc' : c.natAbs < 2 ^ 200 := hc
      have he' : e.natAbs < 2 ^ 200 := he
      have hf' : f.natAbs < 2 ^ 200 := hf
      have hx' : x.natAbs < 2 ^ 200 := hx
      have : 8 < 2 ^ 200 := by decide
      generalize 2 ^ 200 = N at *
      omega
    exact Nat.lt_of_lt_of_le h1 (by decide)
  have up : ∀ {x : Int}, Sz 200 x → Sz 220 x := fun h => h.mono (by decide)
  have fin : ∀ a1 b1 c1 e1 f1 w : Int, Sz 220 a1 → Sz 220 b1 → Sz 220 c1 → Sz 220 e1 → Sz 220 f1 → (a1 + b1 + c1 + e1 + f1 = 1 ∨ a1 + b1 + c1 + e1 + f1 = 2) → 0 ≤ w → w < 4 → Q (.tup [.tup [.int a1, .int b1, .int c1, .int e1, .int f1], .int (if (t + 1 + w) % 5 < t then (t + 1 + w) % 5 else t), .int (if t < (t + 1 + w) % 5 then (t + 1 + w) % 5 else t)]) := fun a1 b1 c1 e1 f1 w h1 h2 h3 h4 h5 hk w0 w1 => by
    rw [tup5_mk]
    refine q (at5 a1 b1 c1 e1 f1) _ _ (fun i i0 i1 => ?_) ⟨rfl, by simpa [sum5, at5] using hk, by split <;> omega, by split <;> split <;> omega, by split <;> omega⟩
    rcases five_of i0 i1 with h | h | h | h | h <;> subst h <;> simp [at5] <;> assumption
  rcases five_of r0 (by omega) with h | h | h | h | h <;> subst h <;> simp [gSetI, ixD, atI, ixN, sumD, intsOf, tupleD] <;> refine dr (by decide) (by decide) fun u u0 u1 => ?_ <;> simp
  all_goals refine dr (by decide) (by decide) fun w w0 w1 => ?_
  all_goals simp [min2D, max2D]
  · exact fin _ _ _ _ _ w (key a u u0 (by omega) ha) (up hb) (up hc) (up he) (up hf) (by omega) w0 w1
  · exact fin _ _ _ _ _ w (up ha) (key b u u0 (by omega) hb) (up hc) (up he) (up hf) (by omega) w0 w1
  · exact fin _ _ _ _ _ w (up ha) (up hb) (key c u u0 (by omega) hc) (up he) (up hf) (by omega) w0 w1
  · exact fin _ _ _ _ _ w (up ha) (up hb) (up hc) (key e u u0 (by omega) he) (up hf) (by omega) w0 w1
  · exact fin _ _ _ _ _ w (up ha) (up hb) (up hc) (up he) (key f u u0 (by omega) hf) (by omega) w0 w1
theorem Ev.toldE {σ : List SV} {W : WD} {fl : (Er → Prop) → GE} {o : Ot} (h : ∀ Qd R, outT o Qd R → fl R (noOwn σ) Qd) : Ev σ (gLam sp__law_told W fl) (toldD o) := ⟨fun Q q => ⟨o, h, q⟩⟩
theorem Ev.told1 {σ : List SV} {W : WD} {sp : DSp} {o : Ot} {fs : GA} {xs : List D} (a : EvA (noOwn σ) fs xs) (h : ∀ Qd R, outT o Qd R → sp W xs Qd R) : Ev σ (gLam sp__law_told W fun R => gCall sp W R fs) (toldD o) := Ev.toldE fun Qd R r => a.run _ (h Qd R r)
theorem Ev.toldK {σ : List SV} {W : WD} {sp : DSp} {o : Ot} {fs : GA} {n m : Nat} {pm : List Nat} {ws xs : List D} (a : EvA (noOwn σ) fs ws) (e : permA n m pm [] ws = xs) (h : ∀ Qd R, outT o Qd R → sp W xs Qd R) : Ev σ (gLam sp__law_told W fun R => gCallK sp n m pm W R ND.gNil fs) (toldD o) := Ev.toldE fun Qd R r => a.run _ (by subst e; exact h Qd R r)
theorem Ev.same {σ : List SV} {W : WD} {R : Er → Prop} {fs : GA} {x : D} (h : EvA σ fs [x, x]) (hr : Rok x) : Ev σ (gCall sp__law_same W R fs) (.bl true) := ⟨fun Q q => h.run _ ⟨x, rfl, hr, q⟩⟩
theorem Pk.rp {x : D} (h : Pk x) : ND.rp 63 x = true := rp_mono _ _ _ (by decide) (Pok.r h)
theorem Pk.rp64 {x : D} (h : Pk x) : ND.rp 64 x = true := rp_mono _ _ _ (by decide) (Pok.r h)
/-- what is told can be shown -/
abbrev Pt (x : D) : Prop := Pok 8 262 800000 x
theorem pt_bad {t : Str} {x : D} (ht : ND.rp 0 (.str t) = true) (hz : rsz (.str t) ≤ 100) (h : Pk x) : Pt (.tup [.str t, x, .bl false]) := by
  refine ⟨?_, ?_, ?_⟩
  · simp only [ND.rp, rps, Bool.and_eq_true]
    exact ⟨by simpa only [ND.rp] using ht, h.r, trivial, trivial⟩
  · simp only [sm, sms, Bool.and_eq_true]
    exact ⟨trivial, sm_mono _ _ _ (Nat.pow_le_pow_right (by decide) (by decide)) h.b, trivial, trivial⟩
  · have := h.z
    show rsz (.str t) + 2 + (rsz x + 2 + (rsz (.bl false) + 2 + 0)) + 3 ≤ _
    have e : rsz (.bl false) ≤ 10 := by decide
    omega
theorem pt_tile {x : D} (h : Pk x) : Pt (toldD (.tile x)) := pt_bad (by decide +kernel) (by decide +kernel) h
theorem pt_edge {x : D} (h : Pk x) : Pt (toldD (.edge x)) := pt_bad (by decide +kernel) (by decide +kernel) h
theorem pt_ok {x : D} (h : Pok 7 262 700000 x) : Pt (toldD (.ok x)) := by
  refine ⟨?_, ?_, ?_⟩
  · simp only [toldD, ND.rp, rps, Bool.and_eq_true]
    exact ⟨by decide +kernel, h.r, trivial⟩
  · simp only [toldD, sm, sms, Bool.and_eq_true]
    exact ⟨trivial, h.b, trivial⟩
  · have := h.z
    have e : rsz (.str "told") ≤ 100 := by decide +kernel
    show rsz (.str "told") + 2 + (rsz x + 2 + 0) + 3 ≤ _
    omega
theorem rok_lst {xs : List D} (h : ∀ y ∈ xs, Pt y) (hl : xs.length ≤ 15) : Rok (.lst xs) := (pok_of h).2.rok (by decide) (by decide) (by omega) (by simp [toPy, isDct])
theorem find_filter (c : Nat → Bool) (v : Nat → D) : ∀ l : List Nat, (l.findSome? fun n => if c n = true then some (v n) else none) = ((l.filter c).head?).map v
  | [] => rfl
  | n :: l => by
    rw [List.findSome?_cons, List.filter_cons]
    cases h : c n
    · simp [find_filter c v l]
    · simp
mutual
theorem toPy_nest : ∀ (y x : D), nest (toPy y) = true → toPy x = toPy y → x = y
  | .int j, x, _, e => by
    cases x <;> simp [toPy] at e
    rw [e]
  | .tup ys, x, n, e => by
    cases x with
    | tup xs =>
      simp only [toPy, nest] at n e
      injection e with e
      rw [toPy_nests ys xs n e]
    | _ => simp [toPy] at e
  | .non, _, n, _ => by simp [toPy, nest] at n
  | .bl _, _, n, _ => by simp [toPy, nest] at n
  | .str _, _, n, _ => by simp [toPy, nest] at n
  | .lst _, _, n, _ => by simp [toPy, nest] at n
  | .dic _, _, n, _ => by simp [toPy, nest] at n
  | .obj _ _, _, n, _ => by simp [toPy, nest] at n
  | .opq _, _, n, _ => by simp [toPy, nest] at n
theorem toPy_nests : ∀ (ys xs : List D), nests (toPys ys) = true → toPys xs = toPys ys → xs = ys
  | [], xs, _, e => by cases xs <;> simp [toPys] at e; rfl
  | y :: ys, xs, n, e => by
    cases xs with
    | nil => simp [toPys] at e
    | cons x xs =>
      simp only [toPys, nests, Bool.and_eq_true, List.cons.injEq] at n e
      rw [toPy_nest y x n.1 e.1, toPy_nests ys xs n.2 e.2]
end
theorem nest_eg (f : Int → Int) (j : Int) : nest (toPy (eg f j)) = true := rfl
theorem shown_eg {e : D} {f : Int → Int} {j : Int} (he : ND.rp 64 e = true) : decide ((toPy (eg f j)).shown = (toPy e).shown) = isE e f j := by
  rw [Bool.eq_iff_iff, isE_iff, decide_eq_true_eq]
  constructor
  · intro h
    exact toPy_nest _ _ (nest_eg f j) (shown_inj (nest_eg f j) h.symm)
  · rintro rfl
    rfl
theorem pok_eg {f : Int → Int} {j : Int} (hf : Szf 261 f) (j0 : 0 ≤ j) (j4 : j ≤ 4) : Pok 2 261 50000 (eg f j) := by
  have h5 : Pok 1 261 22000 (tup5 f) := (int_tup' (k := 261) (ys := [.int (f 0), .int (f 1), .int (f 2), .int (f 3), .int (f 4)]) (by
    simp only [List.forall_mem_cons, List.not_mem_nil, false_implies, implies_true, and_true]
    exact ⟨⟨_, rfl, hf 0 (by decide) (by decide)⟩, ⟨_, rfl, hf 1 (by decide) (by decide)⟩, ⟨_, rfl, hf 2 (by decide) (by decide)⟩, ⟨_, rfl, hf 3 (by decide) (by decide)⟩, ⟨_, rfl, hf 4 (by decide) (by decide)⟩⟩)).1.up (by decide) (by decide) (by simp)
  have hj : Pok 1 261 22000 (.int j) := (pok_int ((Sz.small (by omega) (by omega)).mono (by decide) : Sz 261 j)).up (by decide) (by decide) (by decide)
  refine (pok_of (n := 1) (m := 261) (b := 22000) (ys := [tup5 f, .int j]) fun y m => ?_).1.up (by decide) (by decide) (show (22000 + 2) * 2 + 3 ≤ 50000 by decide)
  rcases List.mem_cons.mp m with e | m
  · rw [e]; exact h5
  · rw [List.mem_singleton.mp m]; exact hj
theorem tile_pk {x : D} (h : Pk x) (e : isTile x = true) : Szf 260 (fT x) := by
  have ex := (tile_n e).e
  intro i i0 i4
  have hb := h.b
  rw [ex] at hb
  simp only [tup5, sm, sms, Bool.and_eq_true, decide_eq_true_eq] at hb
  obtain ⟨⟨h0, h1, h2, h3, h4, _⟩, _⟩ := hb
  rcases five_of i0 i4 with h | h | h | h | h <;> subst h <;> assumption
theorem szf_ef {k : Nat} {f : Int → Int} {r s : Int} (hk : 20 ≤ k) (h : Szf k f) (n : Nat) : Szf (k + 1) (ef f r s n) := by
  match n with
  | 0 => exact fun i i0 i4 => (h i i0 i4).mono (by omega)
  | 1 => exact fun i i0 i4 => (h i i0 i4).mono (by omega)
  | 2 => exact h.rz hk (by decide) (by decide)
  | n + 3 => exact h.rz hk (by decide) (by decide)
theorem seq_mid {σ : List SV} {P : List SV → Prop} {s t : GS} {E : Ed} (rest : ∀ σ', P σ' → t E σ') (h : ∀ E' : Ed, E'.rt = E.rt → (∀ σ', P σ' → E'.nx σ') → s E' σ) : gSeq s t E σ := h { E with nx := t E } rfl rest
theorem pok_reprV {n m z : Nat} {x : D} {Q : D → Prop} (h : Pok n m z x) (e1 : n ≤ 64) (e2 : m ≤ 14000) (e3 : z ≤ 16000000) (q : Q (.str (toPy x).shown)) : reprV [x] Q := by
  have hr := rp_mono _ 64 _ e1 h.r
  have hb := sm_big _ (sm_mono _ _ _ (Nat.le_trans (Nat.pow_le_pow_right (by decide) e2) pw4300) h.b)
  exact ⟨hr, hb, Nat.le_trans (shown_rsz _ _ hr hb) (Nat.le_trans h.z (Nat.le_trans e3 (by decide))), q⟩
theorem Ev.reprV {σ : List SV} {f : GE} {n m z : Nat} {x : D} (a : Ev σ f x) (h : Pok n m z x) (e1 : n ≤ 64) (e2 : m ≤ 14000) (e3 : z ≤ 16000000) : Ev σ (gBlt ND.reprV (ND.gCons f ND.gNil)) (.str (toPy x).shown) := ⟨fun Q q => a.run _ (pok_reprV h e1 e2 e3 q)⟩
theorem if_notF {σ : List SV} {f : GE} {s s' : GS} {E : Ed} (a : Ev σ f (.bl false)) (q : s E σ) : gIfS (gNotT (gTru f)) s s' E σ := a.run _ q
theorem if_notT {σ : List SV} {f : GE} {s s' : GS} {E : Ed} (a : Ev σ f (.bl true)) (q : s' E σ) : gIfS (gNotT (gTru f)) s s' E σ := a.run _ q
theorem par_2 {σ : List SV} {f g : GE} {x y : D} {i j : Nat} {E : Ed} (a : Ev σ f x) (b : Ev σ g y) (q : E.nx (setAll [i, j] [x, y] σ)) : gPar [i, j] (ND.gCons f (ND.gCons g ND.gNil)) E σ := a.run _ (b.run _ ⟨rfl, q⟩)
theorem two_in {x y : D} {f : Int → Int} {r s : Int} (hx : TileD x f r s) : 0 ≤ r ∧ r ≤ 4 ∧ 0 ≤ s ∧ s ≤ 4 := by
  obtain ⟨_, _, r0, rs, s4⟩ := hx
  omega
theorem len__law_are_two_right : ∀ W ds Q R, sp__law_are_two_right W ds Q R → ds.length = 3 := by
  rintro W ds Q R ⟨d, l, x, y, e, _, rfl, _⟩
  rfl
theorem law__law_are_two_right : ∀ W ds Q R, sp__law_are_two_right W ds Q R → g__law_are_two_right W R (endsD Q) (startD 8 ds) := by
  rintro W ds Q R ⟨d, l, x, y, e, rfl, rfl, hx, hy, he, q⟩
  unfold g__law_are_two_right
  refine seq_mid (P := fun σ' => ∃ v6 v7, σ' = [.d x, .d y, .d e, .no, .d (toldD (fitO x y)), .d (toldD (leftO x e)), v6, v7]) ?rest ?head
  case rest =>
    rintro σ' ⟨v6, v7, rfl⟩
    refine seq_setL (EvA.cons (Ev.told1 (o := fitO x y) (EvA.cons (Ev.var rfl) (EvA.cons (Ev.var rfl) EvA.nil)) fun Qd R h => ⟨x, y, rfl, hx.rp64, hy.rp64, h⟩) EvA.nil) (by simp) ?_
    show gSeq _ _ _ [.d x, .d y, .d e, .ol [toldD (fitO x y)], .d (toldD (fitO x y)), .d (toldD (leftO x e)), v6, v7]
    refine seq_app rfl (Ev.toldK (o := fitO x y) (EvA.cons (Ev.var rfl) (EvA.cons (Ev.var rfl) EvA.nil)) rfl fun Qd R h => ⟨x, y, rfl, hx.rp64, hy.rp64, h⟩) (by simp) ?_
    show gSeq _ _ _ [.d x, .d y, .d e, .ol [toldD (fitO x y), toldD (fitO x y)], .d (toldD (fitO x y)), .d (toldD (leftO x e)), v6, v7]
    refine seq_app rfl (Ev.told1 (o := leftO x e) (EvA.cons (Ev.var rfl) (EvA.cons (Ev.var rfl) EvA.nil)) fun Qd R h => ⟨x, e, rfl, hx.rp, he.rp, h⟩) (by simp) ?_
    show gSeq _ _ _ [.d x, .d y, .d e, .ol [toldD (fitO x y), toldD (fitO x y), toldD (leftO x e)], .d (toldD (fitO x y)), .d (toldD (leftO x e)), v6, v7]
    refine seq_app rfl (Ev.toldK (o := leftO x e) (EvA.cons (Ev.var rfl) (EvA.cons (Ev.var rfl) EvA.nil)) rfl fun Qd R h => ⟨x, e, rfl, hx.rp, he.rp, h⟩) (by simp) ?_
    show gRet _ _ [.d x, .d y, .d e, .d (.lst [toldD (fitO x y), toldD (fitO x y), toldD (leftO x e), toldD (leftO x e)]), .d (toldD (fitO x y)), .d (toldD (leftO x e)), v6, v7]
    refine ret_ev (x := .bl true) (Ev.same (x := .lst [toldD (fitO x y), toldD (fitO x y), toldD (leftO x e), toldD (leftO x e)]) (EvA.cons (Ev.var rfl) (EvA.cons (Ev.lst (EvA.cons (Ev.var rfl) (EvA.cons (Ev.var rfl) (EvA.cons (Ev.var rfl) (EvA.cons (Ev.var rfl) EvA.nil)))) (by simp)) EvA.nil)) ?_) q
    have p1 : Pt (toldD (fitO x y)) := by
      unfold fitO onT
      split
      · split
        · exact pt_ok ⟨by simp [ND.rp], by simp [sm], by simp [rsz]⟩
        · exact pt_tile hy
      · exact pt_tile hx
    have p2 : Pt (toldD (leftO x e)) := by
      unfold leftO leftE
      split
      · split
        · rename_i dd ev
          obtain ⟨n, _, h⟩ := List.exists_of_findSome?_eq_some ev
          unfold leftC at h
          split at h
          · cases h
            exact pt_ok ⟨by simp [ND.rp], by simp [sm], by simp [rsz]⟩
          · cases h
        · exact pt_edge he
      · exact pt_tile hx
    refine rok_lst ?_ (by simp)
    simp only [List.forall_mem_cons, List.not_mem_nil, false_implies, implies_true, and_true]
    exact ⟨p1, p1, p2, p2⟩
  case head =>
    intro E' hrt hnx
    have et : ∀ {σ : List SV} {fs : GA} {z : D}, EvA σ fs [z] → Pk z → Ev σ (gCall sp__law_is_tile (some (d, l)) R fs) (.bl (isTile z)) := fun a hz => ⟨fun K k => a.run _ ⟨_, rfl, hz.rp64, k⟩⟩
    cases ex : isTile x
    · have e1 : toldD (fitO x y) = .tup [.str "tile", x, .bl false] := by simp [fitO, ex, toldD]
      have e2 : toldD (leftO x e) = .tup [.str "tile", x, .bl false] := by simp [leftO, ex, toldD]
      rw [e1, e2] at hnx
      have t1 := et (σ := [.d x, .d y, .d e, .no, .no, .no, .no, .no]) (EvA.cons (Ev.var (n := 0) rfl) EvA.nil) hx
      rw [ex] at t1
      refine if_notF t1 ?_
      exact par_2 (Ev.tup (EvA.cons Ev.c (EvA.cons (Ev.var rfl) (EvA.cons Ev.c EvA.nil))) (by simp)) (Ev.tup (EvA.cons Ev.c (EvA.cons (Ev.var rfl) (EvA.cons Ev.c EvA.nil))) (by simp)) (hnx _ ⟨_, _, rfl⟩)
    · have t1 := et (σ := [.d x, .d y, .d e, .no, .no, .no, .no, .no]) (EvA.cons (Ev.var (n := 0) rfl) EvA.nil) hx
      rw [ex] at t1
      refine if_notT t1 ?_
      show gSeq _ _ E' [.d x, .d y, .d e, .no, .no, .no, .no, .no]
      have hX := tile_n ex
      obtain ⟨r0, r4, s0, s4⟩ := two_in (y := x) hX
      refine seq_set (x := toldD (fitO x y)) (Ev.ifb (b := isTile y) (et (EvA.cons (Ev.var rfl) EvA.nil) hy) (fun ey => ?a1) (fun ey => ?a2)) ?a3
      case a1 =>
        have hY := tile_n ey
        obtain ⟨q0, q4, u0, u4⟩ := two_in (y := y) hY
        have e1 : toldD (fitO x y) = .tup [.str "told", .bl (fitL (fT x) (rT x) (sT x) (fT y) (rT y) (sT y))] := by
          simp only [fitO, ex, onT, ey, if_true, toldD]
          rw [fit_eq hX hY]
        rw [e1]
        refine Ev.tup (EvA.cons Ev.c (EvA.cons ⟨fun K k => ?_⟩ EvA.nil)) (by simp)
        exact ⟨fT x, rT x, sT x, fT y, rT y, sT y, by rw [← hX.e, ← hY.e], r0, r4, s0, s4, q0, q4, u0, u4, k⟩
      case a2 =>
        have e1 : toldD (fitO x y) = .tup [.str "tile", y, .bl false] := by simp [fitO, ex, onT, ey, toldD]
        rw [e1]
        exact Ev.tup (EvA.cons Ev.c (EvA.cons (Ev.var rfl) (EvA.cons Ev.c EvA.nil))) (by simp)
      case a3 =>
        show gSeq _ _ E' [.d x, .d y, .d e, .no, .d (toldD (fitO x y)), .no, .no, .no]
        have e2 : toldD (leftO x e) = toldD (leftE (fT x) (rT x) (sT x) e) := by simp only [leftO, ex, if_true]
        rw [e2] at hnx
        have hf := tile_pk hx ex
        generalize fT x = f at *
        generalize rT x = r at *
        generalize sT x = s at *
        have c : Nat → Bool := fun n => isE e (ef f r s n) (ej r s n)
        refine seq_set (x := .lst ((four.filter fun n => isE e (ef f r s n) (ej r s n)).map (bd f r s))) ⟨fun K k => ?_⟩ ?_
        · refine (Ev.bord (f := f) (r := r) (s := s) (EvA.cons (by rw [← hX.e]; exact Ev.var rfl) EvA.nil) r0 r4 s0 s4).run _ ?_
          show lcG _ _ _ _ _ _ (four.map (bd f r s)) []
          refine filt_lc (c := fun b => match b with | .tup (a :: _) => decide ((toPy a).shown = (toPy e).shown) | _ => false) (by simp) _ [] (fun b m Qd q => ?_) (by simp) ?_
          · obtain ⟨n, hn, rfl⟩ := List.mem_map.mp m
            obtain ⟨j0, j4, _, _⟩ := ej_in r0 r4 s0 s4 n
            have a1 : Ev [.d x, .d y, .d e, .no, .d (toldD (fitO x y)), .no, .no, .d (bd f r s n)] (gBin ixD (gVar 7) (gC (.int 0))) (eg (ef f r s n) (ej r s n)) := Ev.ixt (xs := [eg (ef f r s n) (ej r s n), .int (eo r s n), .int (eu n)]) (Ev.var rfl) Ev.c rfl
            have a2 := Ev.reprV a1 (pok_eg (szf_ef (by decide) hf n) j0 j4) (by decide) (by decide) (by decide)
            have a3 : Ev [.d x, .d y, .d e, .no, .d (toldD (fitO x y)), .no, .no, .d (bd f r s n)] (gBlt ND.reprV (ND.gCons (gVar 2) ND.gNil)) (.str (toPy e).shown) := Ev.reprV (Ev.var rfl) he (by decide) (by decide) (by decide)
            exact a2.run _ (a3.run _ q)
          · rw [List.nil_append]
            have : (four.map (bd f r s)).filter (fun b => match b with | .tup (a :: _) => decide ((toPy a).shown = (toPy e).shown) | _ => false) = (four.filter fun n => isE e (ef f r s n) (ej r s n)).map (bd f r s) := by
              rw [List.filter_map]
              congr 1
              refine List.filter_congr fun n _ => ?_
              exact shown_eg he.rp64
            rw [this]
            exact k
        · show gSeq _ _ E' [.d x, .d y, .d e, .no, .d (toldD (fitO x y)), .no, .d (.lst ((four.filter fun n => isE e (ef f r s n) (ej r s n)).map (bd f r s))), .no]
          refine seq_set (x := .tup [.str "edge", e, .bl false]) (Ev.tup (EvA.cons Ev.c (EvA.cons (Ev.var rfl) (EvA.cons Ev.c EvA.nil))) (by simp)) ?_
          show gIfS _ _ _ E' [.d x, .d y, .d e, .no, .d (toldD (fitO x y)), .d (.tup [.str "edge", e, .bl false]), .d (.lst ((four.filter fun n => isE e (ef f r s n) (ej r s n)).map (bd f r s))), .no]
          have ff := find_filter (fun n => isE e (ef f r s n) (ej r s n)) (fun n => .bl (lleft r s n)) four
          have fc : four.findSome? (leftC f r s e) = _ := ff
          unfold leftE at hnx
          rw [fc] at hnx
          cases hl : four.filter fun n => isE e (ef f r s n) (ej r s n) with
          | nil =>
            rw [hl] at hnx
            simp
            refine ⟨by decide, hnx _ ⟨.d (.lst []), .no, ?_⟩⟩
            rfl
          | cons n l =>
            rw [hl] at hnx
            have hm : n ∈ four.filter fun n => isE e (ef f r s n) (ej r s n) := by rw [hl]; exact List.mem_cons_self
            obtain ⟨hn, he1⟩ := List.mem_filter.mp hm
            have ee := isE_iff.mp he1
            obtain ⟨j0, j4, b0, b4⟩ := ej_in r0 r4 s0 s4 n
            simp
            have pb : ∀ m : Nat, pl 63 (bd f r s m) = true := fun m => rfl
            refine ⟨?_, by decide, ?_⟩
            · show pls 63 _ = true
              rw [pls_all, List.all_eq_true]
              intro z hz
              rcases List.mem_cons.mp hz with rfl | hz
              · exact pb n
              · obtain ⟨m, _, rfl⟩ := List.mem_map.mp hz
                exact pb m
            · have en : eqb (.lst (bd f r s n :: l.map (bd f r s))) (.lst []) = false := rfl
              rw [en, if_neg (by decide)]
              rw [ee] at hnx ⊢
              refine ⟨.int (ej r s n), rfl, ⟨.int (eo r s n), rfl, ⟨.int (eu n), rfl, ?_⟩⟩⟩
              refine ⟨_, _, _, rfl, j0, j4, b0, b4, ?_⟩
              rw [← hand_eq hX hn]
              exact hnx _ ⟨_, _, rfl⟩
theorem seq_setTv {σ : List SV} {is : List Nat} {f : GE} {xs : List D} {s : GS} {E : Ed} (a : Ev σ f (.tup xs)) (hl : xs.length = is.length) (q : s E (setAll is xs σ)) : gSeq (gSetT is f) s E σ := a.run _ ⟨xs, rfl, hl, q⟩
theorem len__law_is_alone_right : ∀ W ds Q R, sp__law_is_alone_right W ds Q R → ds.length = 1 := by
  rintro W ds Q R ⟨d, l, x, _, rfl, _⟩
  rfl
theorem pt_on {x dd : D} (hx : Pk x) (h : isTile x = true → Pok 7 262 700000 dd) : Pt (toldD (onT x dd)) := by
  unfold onT
  split
  · rename_i e
    exact pt_ok (h e)
  · exact pt_tile hx
theorem pok_row {f : Int → Int} (hf : Szf 262 f) : Pok 1 262 22000 (tup5 f) := (int_tup' (k := 262) (ys := [.int (f 0), .int (f 1), .int (f 2), .int (f 3), .int (f 4)]) (by
  simp only [List.forall_mem_cons, List.not_mem_nil, false_implies, implies_true, and_true]
  exact ⟨⟨_, rfl, hf 0 (by decide) (by decide)⟩, ⟨_, rfl, hf 1 (by decide) (by decide)⟩, ⟨_, rfl, hf 2 (by decide) (by decide)⟩, ⟨_, rfl, hf 3 (by decide) (by decide)⟩, ⟨_, rfl, hf 4 (by decide) (by decide)⟩⟩)).1.up (by decide) (by decide) (by simp)
theorem szf_up {k m : Nat} {f : Int → Int} (h : Szf k f) (e : k ≤ m) : Szf m f := fun i i0 i4 => (h i i0 i4).mono e
theorem pt_all {x : D} (hx : Pk x) : Pt (toldD (cornO x)) ∧ Pt (toldD (edgO x)) ∧ Pt (toldD (thickO x)) ∧ Pt (toldD (lowO x)) ∧ Pt (toldD (marksO x)) := by
  refine ⟨pt_on hx fun e => ?_, pt_on hx fun e => ?_, pt_on hx fun e => ?_, pt_on hx fun e => ?_, pt_on hx fun e => ?_⟩
  · have hf := tile_pk hx e
    refine (pok_of (n := 1) (m := 262) (b := 22000) fun y m => ?_).1.up (by decide) (by decide) (show (22000 + 2) * 4 + 3 ≤ 700000 by decide)
    simp only [List.mem_cons, List.not_mem_nil, or_false] at m
    have h1 := szf_up (hf.rz (j := rT x) (u := 1) (by decide) (by decide) (by decide)) (show 261 ≤ 262 by decide)
    rcases m with rfl | rfl | rfl | rfl
    · exact pok_row (szf_up hf (by decide))
    · exact pok_row h1
    · exact pok_row (szf_up (hf.rz (by decide) (by decide) (by decide)) (by decide))
    · exact pok_row ((hf.rz (by decide) (by decide) (by decide)).rz (by decide) (by decide) (by decide))
  · have hf := tile_pk hx e
    obtain ⟨r0, r4, s0, s4⟩ := two_in (y := x) (tile_n e)
    refine (pok_of (n := 2) (m := 262) (b := 50000) fun y m => ?_).1.up (by decide) (by decide) (show (50000 + 2) * 4 + 3 ≤ 700000 by decide)
    obtain ⟨n, _, rfl⟩ := List.mem_map.mp m
    obtain ⟨j0, j4, _, _⟩ := ej_in r0 r4 s0 s4 n
    exact (pok_eg (szf_ef (by decide) hf n) j0 j4).up (by decide) (by decide) (by decide)
  · exact ⟨by simp [ND.rp], by simp [sm], by simp [rsz]⟩
  · exact ⟨by simp [ND.rp], by simp [sm], by simp [rsz]⟩
  · refine (pok_of (n := 1) (m := 262) (b := 100) fun y m => ?_).1.up (by decide) (by decide) (show (100 + 2) * 4 + 3 ≤ 700000 by decide)
    obtain ⟨n, _, rfl⟩ := List.mem_map.mp m
    unfold mkS inner
    split
    · exact ⟨by decide +kernel, by decide +kernel, by decide +kernel⟩
    · split
      · exact ⟨by decide +kernel, by decide +kernel, by decide +kernel⟩
      · exact ⟨by decide +kernel, by decide +kernel, by decide +kernel⟩
theorem law__law_is_alone_right : ∀ W ds Q R, sp__law_is_alone_right W ds Q R → g__law_is_alone_right W R (endsD Q) (startD 10 ds) := by
  rintro W ds Q R ⟨d, l, x, rfl, rfl, hx, q⟩
  have it : ∀ {σ : List SV} {R : Er → Prop} {fs : GA} {z : D}, EvA σ fs [z] → Pk z → Ev σ (gCall sp__law_is_tile (some (d, l)) R fs) (.bl (isTile z)) := fun a hz => ⟨fun K k => a.run _ ⟨_, rfl, hz.rp64, k⟩⟩
  have jt : ∀ {σ : List SV} {R : Er → Prop} {fs : GA} {z : D}, EvA σ fs [z] → Pk z → Ev σ (gCall sp_is_tile_row (some (d, l)) R fs) (.bl (isTile z)) := fun a hz => ⟨fun K k => a.run _ ⟨_, rfl, hz.rp64, k⟩⟩
  have kt : ∀ {σ : List SV} {R : Er → Prop} {fs : GA} {z : D}, EvA σ fs [z] → Pk z → Ev σ (gCallK sp_is_tile_row 0 1 [0] (some (d, l)) R ND.gNil fs) (.bl (isTile z)) := fun a hz => ⟨fun K k => a.run _ ⟨_, rfl, hz.rp64, k⟩⟩
  unfold g__law_is_alone_right
  refine seq_ok (Ev.same (x := .tup [.bl (isTile x), .bl (isTile x)]) (EvA.cons (Ev.tup (EvA.cons (jt (EvA.cons (Ev.var rfl) EvA.nil) hx) (EvA.cons (kt (EvA.cons (Ev.var rfl) EvA.nil) hx) EvA.nil)) (by simp)) (EvA.cons (Ev.tup (EvA.cons (it (EvA.cons (Ev.var rfl) EvA.nil) hx) (EvA.cons (it (EvA.cons (Ev.var rfl) EvA.nil) hx) EvA.nil)) (by simp)) EvA.nil)) ?ra) ?rb
  case ra => cases isTile x <;> exact ⟨by decide +kernel, by decide +kernel, by decide +kernel, by decide +kernel⟩
  refine seq_setLP (P := fun xs => xs = List.replicate 5 (toldD (.tile x))) ⟨fun K k => ?_⟩ ?_
  · simp [repF]
    show K (List.replicate 5 (toldD (.tile x)))
    exact k _ rfl
  rintro _ rfl
  show gSeq _ _ _ [.d x, .ol (List.replicate 5 (toldD (.tile x))), .no, .no, .no, .no, .no, .no, .no, .no]
  refine seq_mid (P := fun σ' => ∃ v3 v4 v5 v6 v7 v8 v9, σ' = [.d x, .ol [toldD (cornO x), toldD (edgO x), toldD (thickO x), toldD (lowO x), toldD (marksO x)], .no, v3, v4, v5, v6, v7, v8, v9]) ?rest ?head
  case rest =>
    rintro σ' ⟨v3, v4, v5, v6, v7, v8, v9, rfl⟩
    refine seq_setL (EvA.cons (Ev.told1 (o := cornO x) (EvA.cons (Ev.var rfl) EvA.nil) fun Qd R h => ⟨x, rfl, hx.rp64, h⟩) EvA.nil) (by simp) ?_
    show gSeq _ _ _ [.d x, .ol [toldD (cornO x), toldD (edgO x), toldD (thickO x), toldD (lowO x), toldD (marksO x)], .ol [toldD (cornO x)], v3, v4, v5, v6, v7, v8, v9]
    refine seq_app rfl (Ev.told1 (o := edgO x) (EvA.cons (Ev.var rfl) EvA.nil) fun Qd R h => ⟨x, rfl, hx.rp64, h⟩) (by simp) ?_
    show gSeq _ _ _ [.d x, .ol [toldD (cornO x), toldD (edgO x), toldD (thickO x), toldD (lowO x), toldD (marksO x)], .ol [toldD (cornO x), toldD (edgO x)], v3, v4, v5, v6, v7, v8, v9]
    refine seq_app rfl (Ev.told1 (o := thickO x) (EvA.cons (Ev.var rfl) EvA.nil) fun Qd R h => ⟨x, rfl, hx.rp64, h⟩) (by simp) ?_
    show gSeq _ _ _ [.d x, .ol [toldD (cornO x), toldD (edgO x), toldD (thickO x), toldD (lowO x), toldD (marksO x)], .ol [toldD (cornO x), toldD (edgO x), toldD (thickO x)], v3, v4, v5, v6, v7, v8, v9]
    refine seq_app rfl (Ev.told1 (o := lowO x) (EvA.cons (Ev.var rfl) EvA.nil) fun Qd R h => ⟨x, rfl, hx.rp64, h⟩) (by simp) ?_
    show gSeq _ _ _ [.d x, .ol [toldD (cornO x), toldD (edgO x), toldD (thickO x), toldD (lowO x), toldD (marksO x)], .ol [toldD (cornO x), toldD (edgO x), toldD (thickO x), toldD (lowO x)], v3, v4, v5, v6, v7, v8, v9]
    refine seq_app rfl (Ev.told1 (o := marksO x) (EvA.cons (Ev.var rfl) EvA.nil) fun Qd R h => ⟨x, rfl, hx.rp64, h⟩) (by simp) ?_
    show gSeq _ _ _ [.d x, .ol [toldD (cornO x), toldD (edgO x), toldD (thickO x), toldD (lowO x), toldD (marksO x)], .ol [toldD (cornO x), toldD (edgO x), toldD (thickO x), toldD (lowO x), toldD (marksO x)], v3, v4, v5, v6, v7, v8, v9]
    refine seq_app rfl (Ev.toldK (o := cornO x) (EvA.cons (Ev.var rfl) EvA.nil) rfl fun Qd R h => ⟨x, rfl, hx.rp64, h⟩) (by simp) ?_
    show gSeq _ _ _ [.d x, .ol [toldD (cornO x), toldD (edgO x), toldD (thickO x), toldD (lowO x), toldD (marksO x)], .ol [toldD (cornO x), toldD (edgO x), toldD (thickO x), toldD (lowO x), toldD (marksO x), toldD (cornO x)], v3, v4, v5, v6, v7, v8, v9]
    refine seq_app rfl (Ev.toldK (o := edgO x) (EvA.cons (Ev.var rfl) EvA.nil) rfl fun Qd R h => ⟨x, rfl, hx.rp64, h⟩) (by simp) ?_
    show gSeq _ _ _ [.d x, .ol [toldD (cornO x), toldD (edgO x), toldD (thickO x), toldD (lowO x), toldD (marksO x)], .ol [toldD (cornO x), toldD (edgO x), toldD (thickO x), toldD (lowO x), toldD (marksO x), toldD (cornO x), toldD (edgO x)], v3, v4, v5, v6, v7, v8, v9]
    refine seq_app rfl (Ev.toldK (o := thickO x) (EvA.cons (Ev.var rfl) EvA.nil) rfl fun Qd R h => ⟨x, rfl, hx.rp64, h⟩) (by simp) ?_
    show gSeq _ _ _ [.d x, .ol [toldD (cornO x), toldD (edgO x), toldD (thickO x), toldD (lowO x), toldD (marksO x)], .ol [toldD (cornO x), toldD (edgO x), toldD (thickO x), toldD (lowO x), toldD (marksO x), toldD (cornO x), toldD (edgO x), toldD (thickO x)], v3, v4, v5, v6, v7, v8, v9]
    refine seq_app rfl (Ev.toldK (o := lowO x) (EvA.cons (Ev.var rfl) EvA.nil) rfl fun Qd R h => ⟨x, rfl, hx.rp64, h⟩) (by simp) ?_
    show gSeq _ _ _ [.d x, .ol [toldD (cornO x), toldD (edgO x), toldD (thickO x), toldD (lowO x), toldD (marksO x)], .ol [toldD (cornO x), toldD (edgO x), toldD (thickO x), toldD (lowO x), toldD (marksO x), toldD (cornO x), toldD (edgO x), toldD (thickO x), toldD (lowO x)], v3, v4, v5, v6, v7, v8, v9]
    refine seq_app rfl (Ev.toldK (o := marksO x) (EvA.cons (Ev.var rfl) EvA.nil) rfl fun Qd R h => ⟨x, rfl, hx.rp64, h⟩) (by simp) ?_
    show gRet _ _ [.d x, .ol [toldD (cornO x), toldD (edgO x), toldD (thickO x), toldD (lowO x), toldD (marksO x)], .d (.lst [toldD (cornO x), toldD (edgO x), toldD (thickO x), toldD (lowO x), toldD (marksO x), toldD (cornO x), toldD (edgO x), toldD (thickO x), toldD (lowO x), toldD (marksO x)]), v3, v4, v5, v6, v7, v8, v9]
    refine ret_ev (x := .bl true) (Ev.same (x := .lst [toldD (cornO x), toldD (edgO x), toldD (thickO x), toldD (lowO x), toldD (marksO x), toldD (cornO x), toldD (edgO x), toldD (thickO x), toldD (lowO x), toldD (marksO x)]) (EvA.cons (Ev.var rfl) (EvA.cons (Ev.addL (xs := [toldD (cornO x), toldD (edgO x), toldD (thickO x), toldD (lowO x), toldD (marksO x)]) (ys := [toldD (cornO x), toldD (edgO x), toldD (thickO x), toldD (lowO x), toldD (marksO x)]) (Ev.varBl rfl) (Ev.varBl rfl) (by simp)) EvA.nil)) ?_) q
    obtain ⟨p1, p2, p3, p4, p5⟩ := pt_all hx
    refine rok_lst ?_ (by simp)
    simp only [List.forall_mem_cons, List.not_mem_nil, false_implies, implies_true, and_true]
    exact ⟨p1, p2, p3, p4, p5, p1, p2, p3, p4, p5⟩
  case head =>
    intro E' hrt hnx
    have t1 := it (σ := [.d x, .ol (List.replicate 5 (toldD (.tile x))), .no, .no, .no, .no, .no, .no, .no, .no]) (R := R) (EvA.cons (Ev.var (n := 0) rfl) EvA.nil) hx
    cases ex : isTile x
    · rw [ex] at t1
      refine ifS_f t1 ?_
      have on : ∀ dd, onT x dd = .tile x := fun dd => by unfold onT; rw [if_neg (by simp [ex])]
      unfold cornO edgO thickO lowO marksO at hnx
      simp only [on] at hnx
      exact hnx _ ⟨_, _, _, _, _, _, _, rfl⟩
    · rw [ex] at t1
      refine ifS_t t1 ?_
      have on : ∀ dd, onT x dd = .ok dd := fun dd => by unfold onT; rw [if_pos ex]
      unfold cornO edgO thickO lowO marksO at hnx
      simp only [on] at hnx
      have hX := tile_n ex
      obtain ⟨r0, r4, s0, s4⟩ := two_in (y := x) hX
      obtain ⟨nr, mk⟩ := mark_eq hX
      generalize fT x = f at *
      generalize rT x = r at *
      generalize sT x = s at *
      have exx := hX.e
      subst exx
      show gSeq _ _ E' [.d (tl f r s), .ol (List.replicate 5 (toldD (.tile (tl f r s)))), .no, .no, .no, .no, .no, .no, .no, .no]
      refine seq_setTv (xs := [tup5 f, .int r, .int s]) (Ev.var rfl) rfl ?_
      show gSeq _ _ E' [.d (tl f r s), .ol (List.replicate 5 (toldD (.tile (tl f r s)))), .no, .d (tup5 f), .d (.int r), .d (.int s), .no, .no, .no, .no]
      refine seq_set (x := edgesD f r s) ⟨fun K k => ?_⟩ ?_
      · have hb : Ev [.d (tl f r s), .ol (List.replicate 5 (toldD (.tile (tl f r s)))), .no, .d (tup5 f), .d (.int r), .d (.int s), .no, .no, .no, .no] (gCall sp__law_borders (some (d, l)) R (ND.gCons (gVar 0) ND.gNil)) (.lst (four.map (bd f r s))) := Ev.bord (EvA.cons (Ev.var rfl) EvA.nil) r0 r4 s0 s4
        conv => whnf
        refine ⟨f, r, s, rfl, r0, r4, s0, s4, ?_⟩
        simp [lcG, bd, tupleD]
        exact k
      show gSeq _ _ E' [.d (tl f r s), .ol (List.replicate 5 (toldD (.tile (tl f r s)))), .no, .d (tup5 f), .d (.int r), .d (.int s), .d (edgesD f r s), .no, .no, .no]
      have st : ∀ {σ : List SV} {a b c : GE} {g : Int → Int} {j : Int}, Ev σ a (tup5 g) → Ev σ b (.int j) → 0 ≤ j → j ≤ 4 → Ev σ (gCall sp__law_step (some (d, l)) R (ND.gCons a (ND.gCons b (ND.gCons (gC (.int 1)) ND.gNil)))) (tup5 (rz g j 1)) := fun ha hb j0 j4 => ⟨fun K k => ha.run _ (hb.run _ ⟨_, _, _, rfl, j0, j4, k⟩)⟩
      refine seq_set (x := cornersD f r s) (Ev.tup (EvA.cons (Ev.var rfl) (EvA.cons (st (c := gC .non) (Ev.var rfl) (Ev.var rfl) r0 r4) (EvA.cons (st (c := gC .non) (Ev.var rfl) (Ev.var rfl) s0 s4) (EvA.cons (st (c := gC .non) (st (c := gC .non) (Ev.var rfl) (Ev.var rfl) r0 r4) (Ev.var rfl) s0 s4) EvA.nil)))) (by simp)) ?_
      show gSeq _ _ E' [.d (tl f r s), .ol (List.replicate 5 (toldD (.tile (tl f r s)))), .no, .d (tup5 f), .d (.int r), .d (.int s), .d (edgesD f r s), .d (cornersD f r s), .no, .no]
      refine seq_setL (xs := [toldD (.ok (cornersD f r s)), toldD (.ok (edgesD f r s)), toldD (.ok (.bl (near r s))), toldD (.ok (.bl (decide (sum5 f = 1))))]) (EvA.cons (Ev.tup (EvA.cons Ev.c (EvA.cons (Ev.var rfl) EvA.nil)) (by simp)) (EvA.cons (Ev.tup (EvA.cons Ev.c (EvA.cons (Ev.var rfl) EvA.nil)) (by simp)) (EvA.cons (Ev.tup (EvA.cons Ev.c (EvA.cons ⟨fun K k => ?_⟩ EvA.nil)) (by simp)) (EvA.cons (Ev.tup (EvA.cons Ev.c (EvA.cons ⟨fun K k => ?_⟩ EvA.nil)) (by simp)) EvA.nil)))) (by simp) ?_
      · refine ⟨by simp, ?_⟩
        show inD false (.int (s - r)) (.tup [.int 1, .int 4]) K
        rw [in_two, ← nr]
        exact k
      · show sumD [tup5 f] fun y => eqD y (.int 1) K
        refine sum5_D ?_
        rw [eqD_i]
        exact k
      show gApp 1 _ E' [.d (tl f r s), .ol [toldD (.ok (cornersD f r s)), toldD (.ok (edgesD f r s)), toldD (.ok (.bl (near r s))), toldD (.ok (.bl (decide (sum5 f = 1))))], .no, .d (tup5 f), .d (.int r), .d (.int s), .d (edgesD f r s), .d (cornersD f r s), .no, .no]
      refine ⟨_, rfl, ?_⟩
      have em : Ev [.d (tl f r s), .ol [toldD (.ok (cornersD f r s)), toldD (.ok (edgesD f r s)), toldD (.ok (.bl (near r s))), toldD (.ok (.bl (decide (sum5 f = 1))))], .no, .d (tup5 f), .d (.int r), .d (.int s), .d (edgesD f r s), .d (cornersD f r s), .no, .no] (ND.gTup (ND.gCons (gC (.str "told")) (ND.gCons (gBlt tupleD (ND.gCons (gFrz (gLc (gIter (gVar 6)) (ggName 9) gYes (gCall sp__law_mark (some (d, l)) (fun _ => False) (ND.gCons (gVar 0) (ND.gCons (gVar 9) ND.gNil))) [9])) ND.gNil)) ND.gNil))) (toldD (.ok (marksD (sum5 f) r s))) := by
        refine Ev.tup (EvA.cons Ev.c (EvA.cons ⟨fun K k => ?_⟩ EvA.nil)) (by simp)
        have mm : ∀ n ∈ four, ∀ {R : Er → Prop} {Q : D → Prop}, Q (.str (mkS (sum5 f) r s n)) → sp__law_mark (some (d, l)) [tl f r s, eg (ef f r s n) (ej r s n)] Q R := fun n hn R Q q => ⟨f, r, s, _, _, rfl, by rw [mk n hn]; exact q⟩
        simp [lcG, edgesD]
        refine mm 0 (by simp) ?_
        refine mm 1 (by simp) ?_
        refine mm 2 (by simp) ?_
        refine mm 3 (by simp) ?_
        simp [tupleD]
        exact k
      refine em.run _ ⟨by simp, ?_⟩
      exact hnx _ ⟨_, _, _, _, _, _, _, rfl⟩
theorem left_own {x : D} {f : Int → Int} {r s : Int} (hx : TileD x f r s) {n : Nat} (hn : n ∈ four) : leftE f r s (eg (ef f r s n) (ej r s n)) = .ok (.bl (lleft r s n)) := by
  obtain ⟨_, k, r0, rs, s4⟩ := hx
  have h0 : same f r s f r s 0 0 = true := by
    unfold same
    rw [sm5_iff.mpr rfl]
    simp
  have a1 := List.all_eq_true.mp self_ok (r, s) (dir_mem r0 rs s4)
  have key : ∀ m ∈ four, isE (eg (ef f r s n) (ej r s n)) (ef f r s m) (ej r s m) = true → lleft r s m = lleft r s n := fun m hm h => by
    have h1 : same f r s f r s n m = true := by
      have := isE_iff.mp h
      have h2 := eqb_eg (ef f r s n) (ef f r s m) (ej r s n) (ej r s m)
      rw [this, eqb_refl (n := 64) rfl] at h2
      rw [this] at *
      exact h2.symm
    have a2 := List.all_eq_true.mp (List.all_eq_true.mp a1 n hn) m hm
    rw [same_V (by simp) (by simp) hn hm h0] at h1
    simp only [h1, Bool.not_true, Bool.false_or] at a2
    exact (beq_iff_eq.mp a2).symm
  unfold leftE
  cases hf : four.findSome? (leftC f r s (eg (ef f r s n) (ej r s n))) with
  | some d =>
    obtain ⟨m, hm, h⟩ := List.exists_of_findSome?_eq_some hf
    unfold leftC at h
    split at h
    · rename_i hi
      cases h
      simp [key m hm hi]
    · cases h
  | none =>
    rw [List.findSome?_eq_none_iff] at hf
    have := hf n hn
    simp [leftC, isE_iff.mpr] at this
theorem len__law_are_neighbours_right : ∀ W ds Q R, sp__law_are_neighbours_right W ds Q R → ds.length = 1 := by
  rintro W ds Q R ⟨d, l, f, r, s, _, rfl, _⟩
  rfl
theorem sum5_i (f : Int → Int) : [f 0, f 1, f 2, f 3, f 4].sum = sum5 f := by
  simp [sum5]
  omega
theorem inb_two (i a b : Int) : (if false = true then !inb (.int i) [.int a, .int b] else inb (.int i) [.int a, .int b]) = decide (i = a ∨ i = b) := by
  have e : inb (.int i) [.int a, .int b] = ((a == i) || ((b == i) || false)) := rfl
  show inb (.int i) [.int a, .int b] = _
  rw [e, Bool.eq_iff_iff]
  simp only [Bool.or_eq_true, beq_iff_eq, decide_eq_true_eq, Bool.false_eq_true, or_false]
  constructor
  · rintro (h | h)
    · exact .inl h.symm
    · exact .inr h.symm
  · rintro (h | h)
    · exact .inl h.symm
    · exact .inr h.symm
theorem eqb_tl (f g : Int → Int) (a b r s : Int) : eqb (tl g a b) (tl f r s) = true ↔ tl g a b = tl f r s := by
  have e : eqb (tl g a b) (tl f r s) = (eqb (tup5 g) (tup5 f) && ((a == r) && ((b == s) && true))) := rfl
  rw [e, eqb_tup5]
  simp [sm5_iff]
theorem fit_two {f g : Int → Int} {r s a b : Int} (hx : isTile (tl f r s) = true) (hy : isTile (tl g a b) = true) (ex : f = fT (tl f r s)) : fitO (tl f r s) (tl g a b) = .ok (.bl (fit f r s (fT (tl g a b)) a b)) ∧ fitO (tl g a b) (tl f r s) = .ok (.bl (fit f r s (fT (tl g a b)) a b)) := by
  constructor
  · unfold fitO onT
    rw [if_pos hx, if_pos hy, ← ex]
    rfl
  · unfold fitO onT
    rw [if_pos hx, if_pos hy, ← ex, fit_comm]
    rfl
theorem inb_two' (i a b : Int) : inb (.int i) [.int a, .int b] = decide (i = a ∨ i = b) := inb_two i a b
theorem rok_b (a : Bool) : Rok (.bl a) := by cases a <;> exact ⟨by decide +kernel, by decide +kernel, by decide +kernel, by decide +kernel⟩
theorem rok_bb (a b : Bool) : Rok (.tup [.bl a, .bl b]) := by cases a <;> cases b <;> exact ⟨by decide +kernel, by decide +kernel, by decide +kernel, by decide +kernel⟩
theorem law__law_are_neighbours_right : ∀ W ds Q R, sp__law_are_neighbours_right W ds Q R → g__law_are_neighbours_right W R (endsD Q) (startD 9 ds) := by
  rintro W ds Q R ⟨d, l, f0, r, s, rfl, rfl, ht, hz, q⟩
  have ex := tile_y ht
  have hX : TileD (tl f0 r s) (fT (tl f0 r s)) r s := tile_n ex
  have ex1 : fT (tl f0 r s) = fT (tl (fT (tl f0 r s)) r s) := by conv => lhs; rw [hX.e]
  have exx := hX.e
  generalize fT (tl f0 r s) = f at *
  rw [exx] at ex hX ⊢
  clear exx
  obtain ⟨r0, r4, s0, s4⟩ := two_in (y := .non) hX
  unfold g__law_are_neighbours_right
  conv => whnf
  refine ⟨f, r, s, rfl, r0, r4, s0, s4, ?_⟩
  refine forG_inv (P := fun xs σ => (∃ v1 v2 v3 v4 v5 v6 v7 v8, σ = [.d (tl f r s), v1, v2, v3, v4, v5, v6, v7, v8]) ∧ ∀ x ∈ xs, ∃ n ∈ four, x = bd f r s n) ?_ ?_ _ _ ?_
  · rintro σ ⟨⟨v1, v2, v3, v4, v5, v6, v7, v8, rfl⟩, _⟩
    exact q
  · rintro x xs σ ⟨⟨v1, v2, v3, v4, v5, v6, v7, v8, rfl⟩, hx⟩ E' hrt hbk hnx hct
    obtain ⟨n, hn, rfl⟩ := hx x List.mem_cons_self
    have hxs : ∀ x ∈ xs, ∃ n ∈ four, x = bd f r s n := fun x m => hx x (List.mem_cons_of_mem _ m)
    obtain ⟨j0, j4, b0, b4⟩ := ej_in r0 r4 s0 s4 n
    conv => whnf
    refine ⟨_, rfl, rfl, ?_⟩
    conv => whnf
    refine ⟨_, _, rfl, rfl, rfl, ?_⟩
    have e1 : leftO (tl f r s) (eg (ef f r s n) (ej r s n)) = .ok (.bl (lleft r s n)) := by
      unfold leftO
      rw [if_pos ex, ← ex1]
      exact left_own hX hn
    rw [e1]
    conv => whnf
    refine ⟨_, rfl, ?_⟩
    conv => whnf
    refine ⟨_, _, _, rfl, j0, j4, b0, b4, ?_⟩
    conv => whnf
    refine ⟨.bl (lleft r s n), by rw [hand_eq hX hn], rok_b _, ?_⟩
    conv => whnf
    refine ⟨5, rfl, by decide, by decide, ?_⟩
    refine filt_lc (c := fun x => !eqb x (.int (ej r s n))) (by show 4 < 9; decide) _ [] (fun x hx Qd q => ?_) (by decide) ?_
    · obtain ⟨k, hk, rfl⟩ := List.mem_map.mp hx
      conv => whnf
      refine ⟨_, rfl, ?_⟩
      conv => whnf
      refine ⟨rfl, rfl, ?_⟩
      exact q
    refine forG_inv (P := fun xs σ => (∃ v4 v5 v6 v7 v8, σ = [.d (tl f r s), .d (eg (ef f r s n) (ej r s n)), .d (.int (eo r s n)), .d (.int (eu n)), v4, v5, v6, v7, v8]) ∧ ∀ x ∈ xs, ∃ k, x = .int k ∧ 0 ≤ k ∧ k ≤ 4 ∧ k ≠ ej r s n) ?_ ?_ _ _ ?_
    · rintro σ ⟨⟨v4, v5, v6, v7, v8, rfl⟩, _⟩
      exact hnx _ ⟨⟨_, _, _, _, _, _, _, _, rfl⟩, hxs⟩
    · rintro x xs2 σ ⟨⟨v4, v5, v6, v7, v8, rfl⟩, hx⟩ E2 hrt2 hbk2 hnx2 hct2
      obtain ⟨k, rfl, k0, k4, kj⟩ := hx _ List.mem_cons_self
      have hxs2 := fun x m => hx x (List.mem_cons_of_mem _ m)
      conv => whnf
      refine ⟨by decide, ?_⟩
      refine forG_inv (P := fun xs σ => (∃ v5 v6 v7 v8, σ = [.d (tl f r s), .d (eg (ef f r s n) (ej r s n)), .d (.int (eo r s n)), .d (.int (eu n)), .d (.int k), v5, v6, v7, v8]) ∧ ∀ x ∈ xs, ∃ m, x = .int m) ?_ ?_ _ _ ?_
      · rintro σ ⟨⟨v5, v6, v7, v8, rfl⟩, _⟩
        exact hnx2 _ ⟨⟨_, _, _, _, _, rfl⟩, hxs2⟩
      · rintro x xs3 σ ⟨⟨v5, v6, v7, v8, rfl⟩, hx3⟩ E3 hrt3 hbk3 hnx3 hct3
        obtain ⟨m, rfl⟩ := hx3 _ List.mem_cons_self
        have hxs3 := fun x m => hx3 x (List.mem_cons_of_mem _ m)
        conv => whnf
        refine ⟨_, rfl, ?_⟩
        conv => whnf
        refine ⟨_, _, _, rfl, k0, k4, ?_⟩
        generalize rz (ef f r s n) k m = g
        conv => whnf
        refine ⟨[g 0, g 1, g 2, g 3, g 4], rfl, ?_⟩
        rw [sum5_i]
        conv => whnf
        refine ⟨by decide, ?_⟩
        conv => whnf
        refine ⟨rfl, rfl, ?_⟩
        conv => whnf
        rw [inb_two']
        by_cases hg : sum5 g = 1 ∨ sum5 g = 2
        · rw [decide_eq_true hg]
          conv => whnf
          refine ⟨_, rfl, ?_⟩
          conv => whnf
          refine ⟨_, rfl, ?_⟩
          conv => whnf
          refine ⟨by simp, ?_⟩
          have hy : TileD (tl g (if k < ej r s n then k else ej r s n) (if k > ej r s n then k else ej r s n)) g (if k < ej r s n then k else ej r s n) (if k > ej r s n then k else ej r s n) := ⟨rfl, hg, by split <;> omega, by split <;> split <;> omega, by split <;> omega⟩
          generalize (if k < ej r s n then k else ej r s n) = a at *
          generalize (if k > ej r s n then k else ej r s n) = b at *
          have ey := tile_y hy
          obtain ⟨a0, a4, c0, c4⟩ := two_in (y := .non) hy
          have hY : TileD (tl g a b) (fT (tl g a b)) a b := tile_n ey
          obtain ⟨f1, f2⟩ := fit_two ex ey ex1
          have fe := fit_eq hX hY
          conv => whnf
          refine ⟨rfl, rfl, ?_⟩
          conv => whnf
          cases he : eqb (.tup [tup5 g, .int a, .int b]) (tl f r s)
          · conv => whnf
            refine ⟨f, r, s, fT (tl g a b), a, b, congrArg (fun z => [tl f r s, z]) hY.e, r0, r4, s0, s4, a0, a4, c0, c4, ?_⟩
            rw [← fe]
            conv => whnf
            refine ⟨_, _, rfl, rfl, rfl, ?_⟩
            rw [f1]
            conv => whnf
            refine ⟨_, _, rfl, rfl, rfl, ?_⟩
            rw [f2]
            conv => whnf
            refine ⟨by simp, ?_⟩
            conv => whnf
            refine ⟨by simp, ?_⟩
            conv => whnf
            refine ⟨_, rfl, rok_bb _ _, ?_⟩
            exact hnx3 _ ⟨⟨_, _, _, _, rfl⟩, hxs3⟩
          · have hs : fit f r s (fT (tl g a b)) a b = false := by
              rw [(eqb_tl f g a b r s).mp he, ← ex1]
              have := tile_y hX
              have e2 := (eqb_tl f g a b r s).mp he
              injection e2 with e2
              injection e2 with _ e2
              injection e2 with e3 e4
              injection e3 with e3
              injection e4 with e4 _
              injection e4 with e4
              rw [e3, e4]
              exact fit_self hX
            conv => whnf
            refine ⟨_, _, rfl, rfl, rfl, ?_⟩
            rw [f1, hs]
            conv => whnf
            refine ⟨_, _, rfl, rfl, rfl, ?_⟩
            rw [f2, hs]
            conv => whnf
            refine ⟨by simp, ?_⟩
            conv => whnf
            refine ⟨by simp, ?_⟩
            conv => whnf
            refine ⟨_, rfl, rok_bb _ _, ?_⟩
            exact hnx3 _ ⟨⟨_, _, _, _, rfl⟩, hxs3⟩
        · rw [decide_eq_false hg]
          exact hnx3 _ ⟨⟨_, _, _, _, rfl⟩, hxs3⟩
      · exact ⟨⟨_, _, _, _, rfl⟩, fun x m => by
          simp only [List.mem_cons, List.not_mem_nil, or_false] at m
          rcases m with rfl | rfl <;> exact ⟨_, rfl⟩⟩
    · exact ⟨⟨_, _, _, _, _, rfl⟩, fun x m => by
        obtain ⟨m, h⟩ := List.mem_filter.mp m
        obtain ⟨k, hk, rfl⟩ := List.mem_map.mp m
        have := List.mem_range.mp hk
        refine ⟨_, rfl, by omega, by omega, fun e => ?_⟩
        rw [e, eqb_int] at h
        simp at h⟩
  · exact ⟨⟨_, _, _, _, _, _, _, _, rfl⟩, fun x m => by
      obtain ⟨n, hn, rfl⟩ := List.mem_map.mp m
      exact ⟨n, hn, rfl⟩⟩
theorem tre_row {f : Int → Int} {k : Nat} (hk : k ≤ 230) (hf : Szf k f) : Tre 1 (tup5 f) := .inr ⟨_, rfl, by simp, fun y m => by
  simp only [List.mem_cons, List.not_mem_nil, or_false] at m
  rcases m with rfl | rfl | rfl | rfl | rfl
  · exact ⟨_, rfl, (hf 0 (by decide) (by decide)).mono hk⟩
  · exact ⟨_, rfl, (hf 1 (by decide) (by decide)).mono hk⟩
  · exact ⟨_, rfl, (hf 2 (by decide) (by decide)).mono hk⟩
  · exact ⟨_, rfl, (hf 3 (by decide) (by decide)).mono hk⟩
  · exact ⟨_, rfl, (hf 4 (by decide) (by decide)).mono hk⟩⟩
theorem tre_int {i : Int} (h0 : 0 ≤ i) (h4 : i ≤ 4) : Tre 1 (.int i) := .inl ⟨i, rfl, (Sz.small (by omega) (by omega)).mono (by decide)⟩
theorem tre_tl {f : Int → Int} {r s : Int} (hf : Szf 220 f) (r0 : 0 ≤ r) (r4 : r ≤ 4) (s0 : 0 ≤ s) (s4 : s ≤ 4) : Tre 2 (tl f r s) := .inr ⟨_, rfl, by simp, fun y m => by
  simp only [List.mem_cons, List.not_mem_nil, or_false] at m
  rcases m with rfl | rfl | rfl
  · exact tre_row (by decide) hf
  · exact tre_int r0 r4
  · exact tre_int s0 s4⟩
theorem tre_eg (f : Int → Int) (r s : Int) (hf : Szf 220 f) (r0 : 0 ≤ r) (r4 : r ≤ 4) (s0 : 0 ≤ s) (s4 : s ≤ 4) (n : Nat) : Tre 2 (eg (ef f r s n) (ej r s n)) := .inr ⟨_, rfl, by simp, fun y m => by
  simp only [List.mem_cons, List.not_mem_nil, or_false] at m
  obtain ⟨j0, j4, _, _⟩ := ej_in r0 r4 s0 s4 n
  rcases m with rfl | rfl
  · exact tre_row (k := 221) (by decide) (szf_ef (by decide) hf n)
  · exact tre_int j0 j4⟩
theorem law_law : ∀ (d l : Addr) (v : V), g_law (some (d, l)) (fun _ => False) (endsD fun r => r = .bl true) (.d (.opq v) :: .d (.opq (.ref d)) :: List.replicate 5 .no) := by
  intro d l v
  unfold g_law
  conv => whnf
  refine ⟨2, rfl, by decide, by decide, ?_⟩
  refine forG_inv (P := fun xs σ => ∃ v2 v3 v4 v5 v6, σ = [.d (.opq v), .d (dkD d), v2, v3, v4, v5, v6]) ?_ ?_ _ _ ⟨_, _, _, _, _, rfl⟩
  · rintro σ ⟨v2, v3, v4, v5, v6, rfl⟩
    conv => whnf
    refine ⟨5, rfl, by decide, by decide, ?_⟩
    refine forG_inv (P := fun xs σ => ∃ v2 v3 v4 v5 v6, σ = [.d (.opq v), .d (dkD d), v2, v3, v4, v5, v6]) ?_ ?_ _ _ ⟨_, _, _, _, _, rfl⟩
    · rintro σ ⟨v2, v3, v4, v5, v6, rfl⟩
      exact rfl
    · rintro x xs σ ⟨v2, v3, v4, v5, v6, rfl⟩ E' hrt hbk hnx hct
      conv => whnf
      refine ⟨d, l, rfl, rfl, fun f r s hf ht => ?_⟩
      conv => whnf
      refine ⟨d, l, rfl, rfl, fun g a b hg hu => ?_⟩
      obtain ⟨r0, r4, s0, s4⟩ := two_in (y := .non) ht
      obtain ⟨a0, a4, b0, b4⟩ := two_in (y := .non) hu
      conv => whnf
      refine ⟨rfl, ?_⟩
      conv => whnf
      refine ⟨f, r, s, rfl, r0, r4, s0, s4, ?_⟩
      conv => whnf
      refine ⟨d, l, _, rfl, .inl rfl, by simp, by simp, fun z hz => ?_⟩
      obtain ⟨n, hn, rfl⟩ := List.mem_map.mp hz
      conv => whnf
      refine ⟨_, rfl, ?_⟩
      dsimp only
      refine seq_mid (P := fun σ' => ∃ e v6, Tre 2 e ∧ σ' = [.d (.opq v), .d (dkD d), .d x, .d (tl f r s), .d (tl g a b), .d e, v6]) ?rest ?head
      case head =>
        intro E2 hrt2 hnx2
        conv => whnf
        refine ⟨_, _, _, rfl, rfl, by first | decide | omega, by first | decide | omega, fun k k0 k1 => ?_⟩
        conv => whnf
        refine ⟨rfl, rfl, ?_⟩
        conv => whnf
        cases eqb (.int k) (.int 0)
        · exact hnx2 _ ⟨_, _, tre_eg f r s hf r0 r4 s0 s4 n, rfl⟩
        · conv => whnf
          refine ⟨g, a, b, rfl, a0, a4, b0, b4, ?_⟩
          conv => whnf
          refine ⟨d, l, _, rfl, .inl rfl, by simp, by simp, fun z hz => ?_⟩
          obtain ⟨m, hm, rfl⟩ := List.mem_map.mp hz
          conv => whnf
          refine ⟨_, rfl, ?_⟩
          exact hnx2 _ ⟨_, _, tre_eg g a b hg a0 a4 b0 b4 m, rfl⟩
      case rest =>
        rintro σ' ⟨e, v6, he, rfl⟩
        conv => whnf
        refine ⟨d, l, _, rfl, rfl, tre_tl hf r0 r4 s0 s4, fun y1 h1 => ?_⟩
        conv => whnf
        refine ⟨d, l, _, rfl, rfl, tre_tl hg a0 a4 b0 b4, fun y2 h2 => ?_⟩
        conv => whnf
        refine ⟨d, l, _, rfl, rfl, he, fun y3 h3 => ?_⟩
        have hk : Pok 8 260 1420000 (.tup [y1, y2, y3]) := (pok_of (n := 7) (m := 260) (b := 470000) fun y m => by
          simp only [List.mem_cons, List.not_mem_nil, or_false] at m
          rcases m with rfl | rfl | rfl <;> assumption).1.up (by decide) (by decide) (by simp)
        have ho : Rok (.tup [y1, y2, y3]) := hk.rok (by decide) (by decide) (by decide) rfl
        conv => whnf
        refine ⟨rfl, ?_⟩
        conv => whnf
        refine ⟨by simp, ?_⟩
        conv => whnf
        refine ⟨ho.1, ho.2.1, ho.2.2.1, ho.len, ?_⟩
        conv => whnf
        refine ⟨d, l, y1, rfl, rfl, h1, ?_⟩
        conv => whnf
        refine ⟨d, l, y1, y2, y3, rfl, rfl, h1, h2, h3, ?_⟩
        conv => whnf
        refine ⟨by simp, ?_⟩
        conv => whnf
        refine ⟨ho.1, ho.2.1, ho.2.2.1, ho.len, ?_⟩
        conv => whnf
        refine ⟨_, rfl, hk.text (by decide) (by decide) (by decide), ?_⟩
        exact hnx _ ⟨_, _, _, _, _, rfl⟩
  · rintro x xs σ ⟨v2, v3, v4, v5, v6, rfl⟩ E' hrt hbk hnx hct
    conv => whnf
    refine ⟨d, l, rfl, rfl, fun f r s hf ht => ?_⟩
    conv => whnf
    refine ⟨d, l, f, r, s, rfl, rfl, ht, hf, ?_⟩
    exact hnx _ ⟨_, _, _, _, _, rfl⟩
set_option maxHeartbeats 8000000
section
variable {P : Program} {w : World} {K : PySem.W.Frag} {mg : Str → Option Value} {base : Heap} {T : List (Addr × Str)}
theorem ok__law_draw {f : Addr} {fd : FuncData} (bt : Bt mg) (hm : mg "_law_draw" = some (.ref f)) (F : Fun K "_law_draw" "_law_draw" (top 27) f fd) : OkD P w K mg base T "_law_draw" (top 27) 1 ["_law_deck_here", "_law_many"] spDraw := by
  refine ⟨f, fd, hm, F, okDraw (c := 62989) F sc__law_draw rfl rfl (small64 (by decide) (by decide)) fun cdv A outer s H E hr => ?_⟩
  have hu := hu_of hr
  have h64 := hr.units
  have nd := sc__law_draw.nd
  have it : ∀ {t : Str}, t = t := rfl
  exact pss_cons (ps_dput hu (pv 0) pe_str (pe_op op_add (pe_dget hu (pv 0) pe_str nosl) pe_int) rfl)
    (pss_cons (ps_set (i := 2) nd rfl (Or.inl rfl) (pe_op op_add (pe_dget hu (pv 0) pe_str nosl) (pe_op op_mul pe_int (pe_dget hu (pv 0) pe_str nosl))))
    (pss_cons (ps_if (pt_cmpR (op_neD h64) (pe_dget hu (pv 0) pe_str nosl) (pe_lst pa_nil) (nomark _))
      (pss_cons (ps_set (i := 3) nd rfl (Or.inl rfl) (pe_bm0 PySem.F.plainAttrs_list PySem.F.slot_list_pop PySem.F.type_list_pop mt_pop (pe_dget hu (pv 0) pe_str nosl)))
      (pss_cons (ps_if (pt_cmpR op_ge (pv 3) (pe_op op_pow pe_int pe_int) (nomark _))
        (pss_cons (ps_expr (pe_bm PySem.F.plainAttrs_list PySem.F.slot_list_append PySem.F.type_list_append mt_append (pe_dget hu (pv 0) pe_str nosl) (pa_cons (pe_op op_fdivW (pv 3) (pe_callB (call_max2 rfl) rfl bt.b_max nbMax (pa_cons pe_int (pa_cons (pv 1) pa_nil)))) pa_nil)))
        (pss_one (ps_ret (pe_op op_mod (pe_callTy call_int1 rfl bt.b_int nbInt (pa_cons (pv 3) pa_nil)) (pv 1)))))
        pss_nil)
      (pss_one (ps_set (i := 2) nd rfl (Or.inl rfl) (pe_op op_add (pv 2) (pe_op op_mod (pe_callTy call_int1 rfl bt.b_int nbInt (pa_cons (pv 3) pa_nil)) pe_int))))))
      pss_nil)
    (pss_cons (ps_set (i := 2) nd rfl (Or.inl rfl) (pe_op op_mod (pe_callTy call_int1 rfl bt.b_int nbInt (pa_cons (pe_op op_add (pe_op op_mul (pv 2) pe_int) pe_int) pa_nil)) pe_int))
    (pss_cons (ps_set (i := 2) nd rfl (Or.inl rfl) (pe_op op_mod (pe_callTy call_int1 rfl bt.b_int nbInt (pa_cons (pe_op op_add (pe_op op_add (pe_op op_mul (pv 2) (pv 2)) (pe_op op_mul pe_int (pe_dget hu (pv 0) pe_str nosl))) pe_int) pa_nil)) pe_int))
    (pss_cons (ps_set (i := 2) nd rfl (Or.inl rfl) (pe_op op_mod (pe_callTy call_int1 rfl bt.b_int nbInt (pa_cons (pe_op op_mul (pv 2) pe_int) pa_nil)) pe_int))
    (pss_one (ps_ret (pe_op op_mod (pe_callTy call_int1 rfl bt.b_int nbInt (pa_cons (pe_op op_fdivW (pv 2) pe_int) pa_nil)) (pv 1)))))))))
theorem ok__law_deck {f : Addr} {fd : FuncData} (bt : Bt mg) (F : Fun K "_law_deck" "_law_deck" (top 26) f fd) : FnOk P w K mg base (L2.CX P w) 1 f fd ["_law_script"] (spDeck K) := by
  refine okDeck (c := 10879016) (b := 137) F sc__law_deck rfl rfl (by decide) fun cdv A outer s H E hr => ?_
  have nd := sc__law_deck.nd
  exact pss_cons (ps_set (i := 1) nd rfl (Or.inl rfl) pe_int)
    (pss_cons (ps_for (passes_of rfl) rfl (pi_list (pe_slice sl_list (pv 0) po_none (po_some pe_int))) (pg_name (i := 2) nd rfl (Or.inl rfl))
      (pss_one (ps_set (i := 1) nd rfl (Or.inl rfl) (pe_op op_mod (pe_callTy call_int1 rfl bt.b_int nbInt (pa_cons (pe_op op_add (pe_op op_add (pe_op op_mul (pv 1) pe_int) (pe_op op_mod (pe_callTy call_int1 rfl bt.b_int nbInt (pa_cons (pv 2) pa_nil)) pe_int)) pe_int) pa_nil)) pe_int))))
    (pss_one (ps_ret (pe_disp (pps_cons pe_str (pe_revL (pe_callTy call_list_of rfl bt.b_list nbList (pa_cons (pe_slice sl_list (pv 0) po_none (po_some pe_int)) pa_nil))) (pps_cons pe_str (pv 1) (pps_cons pe_str pe_int pps_nil))) rfl rfl (by simp) (by decide)))))
theorem ok_is_integer {f : Addr} {fd : FuncData} (bt : Bt mg) (ct : Ct K mg) (hm : mg "is_integer" = some (.ref f)) (F : Fun K "is_integer" "is_integer" (top 6) f fd)  : OkD P w K mg base T "is_integer" (top 6) 1 ["thing"] sp_is_integer := by
  refine ⟨f, fd, hm, F, okD (g := g_is_integer) F sc_is_integer len_is_integer (fun cdv A outer s H E W F R hr hE hp hx => ?_) law_is_integer⟩
  have nd := sc_is_integer.nd
  have hu65 := hu65_of hr
  exact (sds_one (sd_ret (ed_and (ed_callB c_isi (by rfl) bt.b_isinstance nbIsi (abd_cons (ed_var 0 (pv 0)).toB (abd_cons (ed_ty (by rfl) bt.b_int nbInt).toB abd_nil))) (ed_one (ed_not (ed_callB c_isi (by rfl) bt.b_isinstance nbIsi (abd_cons (ed_var 0 (pv 0)).toB (abd_cons (ed_ty (by rfl) bt.b_bool nbBool).toB abd_nil))).toB)))))
theorem ok_raised {f : Addr} {fd : FuncData} (bt : Bt mg) (ct : Ct K mg) (hm : mg "raised" = some (.ref f)) (F : Fun K "raised" "raised" (top 11) f fd)  : OkD P w K mg base T "raised" (top 11) 1 ["row", "direction"] sp_raised := by
  refine ⟨f, fd, hm, F, okD (g := g_raised) F sc_raised len_raised (fun cdv A outer s H E W F R hr hE hp hx => ?_) law_raised⟩
  have nd := sc_raised.nd
  have hu65 := hu65_of hr
  exact (sds_cons (sd_setL (i := 2) nd rfl (Or.inl rfl) (fd_callTy c_list (by rfl) bt.b_list nbList (abd_cons (ed_var 0 (pv 0)).toB abd_nil)))
      (sds_cons (sd_augI (pv 2) (ed_bin o_mod (ed_var 1 (pv 1)).toB ed_int.toB).toB ed_int.toB o_iadd)
      (sds_one (sd_ret (ed_callTy c_tuple (by rfl) bt.b_tuple nbTuple (abd_cons (bd_var 2 (pv 2)) abd_nil))))))
theorem ok_are_near {f : Addr} {fd : FuncData} (bt : Bt mg) (ct : Ct K mg) (hm : mg "are_near" = some (.ref f)) (F : Fun K "are_near" "are_near" (top 12) f fd)  : OkD P w K mg base T "are_near" (top 12) 1 ["r", "s"] sp_are_near := by
  refine ⟨f, fd, hm, F, okD (g := g_are_near) F sc_are_near len_are_near (fun cdv A outer s H E W F R hr hE hp hx => ?_) law_are_near⟩
  have nd := sc_are_near.nd
  have hu65 := hu65_of hr
  exact (sds_one (sd_ret (ed_cmp (o_in hu65) (ed_bin o_mod (ed_bin o_sub (ed_var 0 (pv 0)).toB (ed_var 1 (pv 1)).toB).toB ed_int.toB).toB (ed_tup (ad_cons ed_int (ad_cons ed_int ad_nil))).toB (by rfl))))
theorem ok_lies_left {f : Addr} {fd : FuncData} (bt : Bt mg) (ct : Ct K mg) (hm : mg "lies_left" = some (.ref f)) (F : Fun K "lies_left" "lies_left" (top 21) f fd)  : OkD P w K mg base T "lies_left" (top 21) 1 ["tile", "number"] sp_lies_left := by
  refine ⟨f, fd, hm, F, okD (g := g_lies_left) F sc_lies_left len_lies_left (fun cdv A outer s H E W F R hr hE hp hx => ?_) law_lies_left⟩
  have nd := sc_lies_left.nd
  have hu65 := hu65_of hr
  exact (sds_cons (sd_setT (is := [2, 3]) rfl (na_cons (pg_name (i := 2) nd rfl (Or.inl rfl)) (na_cons (pg_name (i := 3) nd rfl (Or.inl rfl)) na_nil)) (ed_if (td_cmp (o_in hu65) (ed_var 1 (pv 1)).toB (ed_tup (ad_cons ed_int (ad_cons ed_int ad_nil))).toB (by rfl)) (ed_tup (ad_cons (ed_ix (ed_var 0 (pv 0)).toB ed_int.toB) (ad_cons (ed_ix (ed_var 0 (pv 0)).toB ed_int.toB) ad_nil))) (ed_tup (ad_cons (ed_ix (ed_var 0 (pv 0)).toB ed_int.toB) (ad_cons (ed_ix (ed_var 0 (pv 0)).toB ed_int.toB) ad_nil)))))
      (sds_cons (sd_set (i := 4) nd rfl (Or.inl rfl) (ed_cmp (o_in hu65) (ed_bin o_mod (ed_bin o_sub (ed_var 3 (pv 3)).toB (ed_var 2 (pv 2)).toB).toB ed_int.toB).toB (ed_tup (ad_cons ed_int (ad_cons ed_int ad_nil))).toB (by rfl)))
      (sds_one (sd_ret (ed_cmp (o_eq hr.units) (ed_var 4 (pv 4)).toB (ed_cmp o_lt (ed_var 1 (pv 1)).toB ed_int.toB (nomark _)).toB (nomark _))))))
theorem ok__law_same {f : Addr} {fd : FuncData} (bt : Bt mg) (ct : Ct K mg) (hm : mg "_law_same" = some (.ref f)) (F : Fun K "_law_same" "_law_same" (top 30) f fd)  : OkG P w K mg base T "_law_same" (top 30) 1 ["_law_told_here", "_law_due"] sp__law_same := by
  refine ⟨f, fd, hm, F, okG (g := g__law_same) F sc__law_same len__law_same (fun cdv A outer s H E W F R hG hr hE hp hx => ?_) law__law_same⟩
  have nd := sc__law_same.nd
  have hu65 := hu65_of hr
  exact (sds_one (sd_ret (ed_cmp (o_eq hr.units) (ed_callB (c_reprB ct.dig hG hu65) (by rfl) bt.b_repr nbRepr (abd_cons (ed_var 0 (pv 0)).toB abd_nil)).toB (ed_callB (c_reprB ct.dig hG hu65) (by rfl) bt.b_repr nbRepr (abd_cons (ed_var 1 (pv 1)).toB abd_nil)).toB (nomark _))))
theorem ok__law_step {f : Addr} {fd : FuncData} (bt : Bt mg) (ct : Ct K mg) (hm : mg "_law_step" = some (.ref f)) (F : Fun K "_law_step" "_law_step" (top 31) f fd)  : OkD P w K mg base T "_law_step" (top 31) 1 ["_law_k", "_law_r", "_law_many"] sp__law_step := by
  refine ⟨f, fd, hm, F, okD (g := g__law_step) F sc__law_step len__law_step (fun cdv A outer s H E W F R hr hE hp hx => ?_) law__law_step⟩
  have nd := sc__law_step.nd
  have hu65 := hu65_of hr
  exact (sds_one (sd_ret (ed_bin o_add (ed_bin o_add (ed_sl (ed_var 0 (pv 0)).toB od_none (od_some (ed_var 1 (pv 1)))).toB (ed_tup (ad_cons (ed_bin o_add (ed_ix (ed_var 0 (pv 0)).toB (ed_var 1 (pv 1)).toB).toB (ed_var 2 (pv 2)).toB) ad_nil)).toB).toB (ed_sl (ed_var 0 (pv 0)).toB (od_some (ed_bin o_add (ed_var 1 (pv 1)).toB ed_int.toB)) od_none).toB)))
theorem ok__law_is_lefthand {f : Addr} {fd : FuncData} (bt : Bt mg) (ct : Ct K mg) (hm : mg "_law_is_lefthand" = some (.ref f)) (F : Fun K "_law_is_lefthand" "_law_is_lefthand" (top 34) f fd)  : OkD P w K mg base T "_law_is_lefthand" (top 34) 1 ["_law_j", "_law_beside", "_law_is_up"] sp__law_is_lefthand := by
  refine ⟨f, fd, hm, F, okD (g := g__law_is_lefthand) F sc__law_is_lefthand len__law_is_lefthand (fun cdv A outer s H E W F R hr hE hp hx => ?_) law__law_is_lefthand⟩
  have nd := sc__law_is_lefthand.nd
  have hu65 := hu65_of hr
  exact (sds_cons (sd_set (i := 3) nd rfl (Or.inl rfl) (ed_if (td_cmp (o_eq hr.units) (ed_var 2 (pv 2)).toB ed_int.toB (nomark _)) (ed_bin o_mul ed_int.toB (ed_var 1 (pv 1)).toB) (ed_bin o_add (ed_bin o_mul ed_int.toB (ed_var 1 (pv 1)).toB).toB ed_int.toB)))
      (sds_one (sd_ret (ed_cmp o_lt (ed_bin o_mod (ed_callTy (c_intB ct.dig) (by rfl) bt.b_int nbInt (abd_cons (ed_bin o_sub (ed_var 3 (pv 3)).toB (ed_bin o_mul ed_int.toB (ed_var 0 (pv 0)).toB).toB).toB abd_nil)).toB ed_int.toB).toB ed_int.toB (nomark _)))))
theorem ok__law_mark {f : Addr} {fd : FuncData} (bt : Bt mg) (ct : Ct K mg) (hm : mg "_law_mark" = some (.ref f)) (F : Fun K "_law_mark" "_law_mark" (top 35) f fd)  : OkD P w K mg base T "_law_mark" (top 35) 1 ["_law_rhomb", "_law_edge"] sp__law_mark := by
  refine ⟨f, fd, hm, F, okD (g := g__law_mark) F sc__law_mark len__law_mark (fun cdv A outer s H E W F R hr hE hp hx => ?_) law__law_mark⟩
  have nd := sc__law_mark.nd
  have hu65 := hu65_of hr
  exact (sds_cons (sd_if (td_cmp (o_ne hr.units) (ed_callB (c_sum rfl) (by rfl) bt.b_sum nbSum (abd_cons (ed_ix (ed_var 1 (pv 1)).toB ed_int.toB).toB abd_nil)).toB ed_int.toB (nomark _)) (sds_one (sd_ret ed_str)) sds_nil)
      (sds_one (sd_ret (ed_if (td_cmp (o_eq hr.units) (ed_cmp (o_in hu65) (ed_bin o_sub (ed_ix (ed_var 0 (pv 0)).toB ed_int.toB).toB (ed_ix (ed_var 0 (pv 0)).toB ed_int.toB).toB).toB (ed_tup (ad_cons ed_int (ad_cons ed_int ad_nil))).toB (by rfl)).toB (ed_cmp (o_eq hr.units) (ed_callB (c_sum rfl) (by rfl) bt.b_sum nbSum (abd_cons (ed_ix (ed_var 0 (pv 0)).toB ed_int.toB).toB abd_nil)).toB ed_int.toB (nomark _)).toB (nomark _)) ed_str ed_str))))
theorem ok__law_is_tile {f : Addr} {fd : FuncData} (bt : Bt mg) (ct : Ct K mg) (hm : mg "_law_is_tile" = some (.ref f)) (F : Fun K "_law_is_tile" "_law_is_tile" (top 37) f fd)  : OkD P w K mg base T "_law_is_tile" (top 37) 1 ["_law_thing"] sp__law_is_tile := by
  refine ⟨f, fd, hm, F, okD (g := g__law_is_tile) F sc__law_is_tile len__law_is_tile (fun cdv A outer s H E W F R hr hE hp hx => ?_) law__law_is_tile⟩
  have nd := sc__law_is_tile.nd
  have hu65 := hu65_of hr
  exact (sds_cons (sd_if (wd_or (td_not (td_val (ed_callB c_isi (by rfl) bt.b_isinstance nbIsi (abd_cons (ed_var 0 (pv 0)).toB (abd_cons (ed_ty (by rfl) bt.b_tuple nbTuple).toB abd_nil))).toB)) (wd_or (td_cmp (o_ne hr.units) (ed_callB c_len (by rfl) bt.b_len nbLen (abd_cons (ed_var 0 (pv 0)).toB abd_nil)).toB ed_int.toB (nomark _)) (wd_or (td_not (td_val (ed_callB c_isi (by rfl) bt.b_isinstance nbIsi (abd_cons (ed_ix (ed_var 0 (pv 0)).toB ed_int.toB).toB (abd_cons (ed_ty (by rfl) bt.b_tuple nbTuple).toB abd_nil))).toB)) (wd_or1 (td_cmp (o_ne hr.units) (ed_callB c_len (by rfl) bt.b_len nbLen (abd_cons (ed_ix (ed_var 0 (pv 0)).toB ed_int.toB).toB abd_nil)).toB ed_int.toB (nomark _)))))).t (sds_one (sd_ret ed_bl)) sds_nil)
      (sds_cons (sd_if (td_cmp (o_ne hr.units) (fd_lc (own := [("_law_it", 1)]) rfl nd (pid_data (ed_bin o_add (ed_ix (ed_var 0 (pv 0)).toB ed_int.toB).toB (ed_sl (ed_var 0 (pv 0)).toB (od_some ed_int) od_none).toB)) (blkOk_by (own := [("_law_it", 1)]) (N := ["_law_thing", "_law_it"]) (sc := defScope (top 37)) (by decide +kernel)) (ct_name (by decide)) (fun _ _ _ _ _ => pg_name (i := 1) nd rfl (Or.inl rfl)) (fun _ _ _ _ _ => (tds_one (wd_or (td_not (td_val (ed_callB c_isi (by rfl) bt.b_isinstance nbIsi (abd_cons (ed_var 1 (pv 1)).toB (abd_cons (ed_ty (by rfl) bt.b_int nbInt).toB abd_nil))).toB)) (wd_or1 (td_val (ed_callB c_isi (by rfl) bt.b_isinstance nbIsi (abd_cons (ed_var 1 (pv 1)).toB (abd_cons (ed_ty (by rfl) bt.b_bool nbBool).toB abd_nil))).toB))).t)) (fun _ _ _ _ _ => ed_int)).toE.toB (fd_lst ad_nil).toE.toB (nomark _)) (sds_one (sd_ret ed_bl)) sds_nil)
      (sds_one (sd_ret (ed_and (ed_cmp (o_in hu65) (ed_callB (c_sum rfl) (by rfl) bt.b_sum nbSum (abd_cons (ed_ix (ed_var 0 (pv 0)).toB ed_int.toB).toB abd_nil)).toB (ed_tup (ad_cons ed_int (ad_cons ed_int ad_nil))).toB (by rfl)) (ed_and (ed_cmp o_ge (ed_ix (ed_var 0 (pv 0)).toB ed_int.toB).toB ed_int.toB (nomark _)) (ed_and (ed_cmp o_lt (ed_ix (ed_var 0 (pv 0)).toB ed_int.toB).toB (ed_ix (ed_var 0 (pv 0)).toB ed_int.toB).toB (nomark _)) (ed_one (ed_cmp o_lt (ed_ix (ed_var 0 (pv 0)).toB ed_int.toB).toB ed_int.toB (nomark _))))))))))
theorem ok__law_told {f : Addr} {fd : FuncData} (bt : Bt mg) (ct : Ct K mg) (hm : mg "_law_told" = some (.ref f)) (F : Fun K "_law_told" "_law_told" (top 41) f fd)  : ∀ k, OkL P w K mg base T "_law_told" (top 41) k ["_law_call", "_law_told_here", "e"] "_law_call" sp__law_told := by
  intro k
  obtain ⟨D_BadEdge, g_BadEdge⟩ := ct.g_BadEdge
  obtain ⟨D_BadTile, g_BadTile⟩ := ct.g_BadTile
  obtain ⟨D_FloorError, g_FloorError⟩ := ct.g_FloorError
  refine okL (g := g__law_told) hm F sc__law_told (fun cdv A outer s H W F f0 act_ hr act => ?_) law__law_told
  have nd := sc__law_told.nd
  have hu65 := hu65_of hr
  exact (sds_cons (sd_tryL (X := (cxL P w K mg base ["_law_call", "_law_told_here", "e"] "_law_told" (top 41) f cdv A outer s H).nox) (M := clsM) (E := fun _ _ _ => False) rfl rfl nd LamX.takes0 finE_none ct.tab (fun Wx pn xe R tk hE hp => (sds_one (sd_set (i := 1) nd rfl (Or.inl rfl) (act Wx pn xe R _ _ tk hE))))
      (.named rfl rfl g_BadTile (i := 2) rfl rfl (fun a oe cls d pn F0 H0 er zc fv at_ => (sds_one (sd_ret (ed_tup (ad_cons ed_str (ad_cons (ed_erF (fld := "thing") at_ zc fv ct.get_thing (pv 2)) (ad_cons (ed_or (ed_isE (M := clsI) at_ zc fv ct.isi (by rfl) bt.b_isinstance (by rfl) (by decide) (pv 2)) (ed_or (ed_isE (M := clsI) at_ zc fv ct.isi (by rfl) bt.b_isinstance (by rfl) (by decide) (pv 2)) (ed_one (ed_not (ed_isE (M := clsI) at_ zc fv ct.isi (by rfl) bt.b_isinstance (by rfl) (by decide) (pv 2)).toB)))) ad_nil))))))) (.named rfl rfl g_BadEdge (i := 2) rfl rfl (fun a oe cls d pn F0 H0 er zc fv at_ => (sds_one (sd_ret (ed_tup (ad_cons ed_str (ad_cons (ed_erF (fld := "thing") at_ zc fv ct.get_thing (pv 2)) (ad_cons (ed_or (ed_isE (M := clsI) at_ zc fv ct.isi (by rfl) bt.b_isinstance (by rfl) (by decide) (pv 2)) (ed_or (ed_isE (M := clsI) at_ zc fv ct.isi (by rfl) bt.b_isinstance (by rfl) (by decide) (pv 2)) (ed_one (ed_not (ed_isE (M := clsI) at_ zc fv ct.isi (by rfl) bt.b_isinstance (by rfl) (by decide) (pv 2)).toB)))) ad_nil))))))) (.plain rfl rfl g_FloorError (fun a oe cls d pn F0 H0 er zc fv at_ => (sds_one (sd_ret (ed_tup (ad_cons ed_str (ad_cons ed_non (ad_cons ed_bl ad_nil))))))) .nil))))
      (sds_one (sd_ret (ed_tup (ad_cons ed_str (ad_cons (ed_var 1 (pv 1)) ad_nil))))))
theorem ok_is_direction {f : Addr} {fd : FuncData} (bt : Bt mg) (ct : Ct K mg) (hm : mg "is_direction" = some (.ref f)) (F : Fun K "is_direction" "is_direction" (top 8) f fd) (O_is_integer : OkD P w K mg base T "is_integer" (top 6) 1 ["thing"] sp_is_integer) : OkD P w K mg base T "is_direction" (top 8) 2 ["thing"] sp_is_direction := by
  refine ⟨f, fd, hm, F, okD (g := g_is_direction) F sc_is_direction len_is_direction (fun cdv A outer s H E W F R hr hE hp hx => ?_) law_is_direction⟩
  have nd := sc_is_direction.nd
  have hu65 := hu65_of hr
  exact (sds_one (sd_ret (ed_and (ed_o (B := ⟨⟨W, T⟩, F, H⟩) (k := 1) O_is_integer bp_is_integer (hr.mono (by decide)) hx hE (ad_cons (ed_var 0 (pv 0)) ad_nil)) (ed_one (ed_chain o_le o_le ed_int.toB (ed_var 0 (pv 0)).toB ed_int.toB)))))
theorem ok_is_five {f : Addr} {fd : FuncData} (bt : Bt mg) (ct : Ct K mg) (hm : mg "is_five" = some (.ref f)) (F : Fun K "is_five" "is_five" (top 9) f fd) (O_is_integer : OkD P w K mg base T "is_integer" (top 6) 1 ["thing"] sp_is_integer) : OkD P w K mg base T "is_five" (top 9) 2 ["thing"] sp_is_five := by
  refine ⟨f, fd, hm, F, okD (g := g_is_five) F sc_is_five len_is_five (fun cdv A outer s H E W F R hr hE hp hx => ?_) law_is_five⟩
  have nd := sc_is_five.nd
  have hu65 := hu65_of hr
  exact (sds_one (sd_ret (ed_and (ed_callB c_isi (by rfl) bt.b_isinstance nbIsi (abd_cons (ed_var 0 (pv 0)).toB (abd_cons (ed_ty (by rfl) bt.b_tuple nbTuple).toB abd_nil))) (ed_and (ed_cmp (o_eq hr.units) (ed_callB c_len (by rfl) bt.b_len nbLen (abd_cons (ed_var 0 (pv 0)).toB abd_nil)).toB ed_int.toB (nomark _)) (ed_one (ed_callB (c_all rfl) (by rfl) bt.b_all nbAll (abd_cons (fd_lc (own := [("part", 1)]) rfl nd (pid_data (ed_var 0 (pv 0))) (blkOk_by (own := [("part", 1)]) (N := ["thing", "part"]) (sc := defScope (top 9)) (by decide +kernel)) (ct_name (by decide)) (fun _ _ _ _ _ => pg_name (i := 1) nd rfl (Or.inl rfl)) (fun _ _ _ _ _ => tds_nil) (fun _ _ _ _ _ => (ed_o (B := ⟨⟨W, T⟩, F, H⟩) (k := 1) O_is_integer bp_is_integer (hr.mono (by decide)) passL FinE.none (ad_cons (ed_var 1 (pv 1)) ad_nil)))).toE.toB abd_nil)))))))
theorem ok__law_pick {f : Addr} {fd : FuncData} (bt : Bt mg) (ct : Ct K mg) (hm : mg "_law_pick" = some (.ref f)) (F : Fun K "_law_pick" "_law_pick" (top 28) f fd) (O__law_draw : OkD P w K mg base T "_law_draw" (top 27) 1 ["_law_deck_here", "_law_many"] spDraw) : OkD P w K mg base T "_law_pick" (top 28) 2 ["_law_deck_here", "_law_some"] sp__law_pick := by
  refine ⟨f, fd, hm, F, okD (g := g__law_pick) F sc__law_pick len__law_pick (fun cdv A outer s H E W F R hr hE hp hx => ?_) law__law_pick⟩
  have nd := sc__law_pick.nd
  have hu65 := hu65_of hr
  exact (sds_one (sd_ret (ed_ix (ed_var 1 (pv 1)).toB (ed_o (B := ⟨⟨W, T⟩, F, H⟩) (k := 1) O__law_draw bp__law_draw (hr.mono (by decide)) hx hE (ad_cons (ed_var 0 (pv 0)) (ad_cons (ed_callB c_len (by rfl) bt.b_len nbLen (abd_cons (ed_var 1 (pv 1)).toB abd_nil)) ad_nil))).toB)))
theorem ok__law_integer {f : Addr} {fd : FuncData} (bt : Bt mg) (ct : Ct K mg) (hm : mg "_law_integer" = some (.ref f)) (F : Fun K "_law_integer" "_law_integer" (top 29) f fd) (O__law_draw : OkD P w K mg base T "_law_draw" (top 27) 1 ["_law_deck_here", "_law_many"] spDraw) : OkD P w K mg base T "_law_integer" (top 29) 2 ["_law_deck_here", "_law_pieces"] sp__law_integer := by
  refine ⟨f, fd, hm, F, okD (g := g__law_integer) F sc__law_integer len__law_integer (fun cdv A outer s H E W F R hr hE hp hx => ?_) law__law_integer⟩
  have nd := sc__law_integer.nd
  have hu65 := hu65_of hr
  exact (sds_cons (sd_par3 (i := 2) (j := 3) (l := 4) rfl nd rfl rfl rfl (by decide) (by decide) (by decide) rfl rfl rfl (ad_cons (ed_o (B := ⟨⟨W, T⟩, F, H⟩) (k := 1) O__law_draw bp__law_draw (hr.mono (by decide)) hx hE (ad_cons (ed_var 0 (pv 0)) (ad_cons ed_int ad_nil))) (ad_cons (ed_bin o_sub ed_int.toB (ed_bin o_mul ed_int.toB (ed_o (B := ⟨⟨W, T⟩, F, H⟩) (k := 1) O__law_draw bp__law_draw (hr.mono (by decide)) hx hE (ad_cons (ed_var 0 (pv 0)) (ad_cons ed_int ad_nil))).toB).toB) (ad_cons ed_int ad_nil))) (by rfl))
      (sds_cons (sd_if (td_cmp o_lt (ed_var 2 (pv 2)).toB ed_int.toB (nomark _)) (sds_one (sd_ret (ed_bin o_mul (ed_var 3 (pv 3)).toB (ed_o (B := ⟨⟨W, T⟩, F, H⟩) (k := 1) O__law_draw bp__law_draw (hr.mono (by decide)) hx hE (ad_cons (ed_var 0 (pv 0)) (ad_cons (ed_ix (ed_tup (ad_cons ed_int (ad_cons ed_int (ad_cons ed_int (ad_cons ed_int (ad_cons ed_int (ad_cons ed_int ad_nil))))))).toB (ed_var 2 (pv 2)).toB) ad_nil))).toB))) sds_nil)
      (sds_cons (sd_if (td_cmp (o_eq hr.units) (ed_var 2 (pv 2)).toB ed_int.toB (nomark _)) (sds_one (sd_ret (ed_bin o_mul (ed_var 3 (pv 3)).toB (ed_bin o_sub (ed_callTy (c_intB ct.dig) (by rfl) bt.b_int nbInt (abd_cons (ed_bin o_repS ed_str.toB (ed_bin o_mul ed_int.toB (ed_var 1 (pv 1)).toB).toB).toB abd_nil)).toB (ed_o (B := ⟨⟨W, T⟩, F, H⟩) (k := 1) O__law_draw bp__law_draw (hr.mono (by decide)) hx hE (ad_cons (ed_var 0 (pv 0)) (ad_cons ed_int ad_nil))).toB).toB))) sds_nil)
      (sds_cons (sd_for hp rfl (pid_rng1 (by rfl) bt.b_range (ad_cons (ed_bin o_add ed_int.toB (ed_o (B := ⟨⟨W, T⟩, F, H⟩) (k := 1) O__law_draw bp__law_draw (hr.mono (by decide)) hx hE (ad_cons (ed_var 0 (pv 0)) (ad_cons (ed_var 1 (pv 1)) ad_nil))).toB) ad_nil)) (gd_name (pg_name (i := 5) nd rfl (Or.inl rfl))) (sds_one (sd_set (i := 4) nd rfl (Or.inl rfl) (ed_bin o_add (ed_bin o_mul (ed_var 4 (pv 4)).toB (ed_bin o_pow ed_int.toB ed_int.toB).toB).toB (ed_o (B := ⟨⟨W, T⟩, F, H⟩) (k := 1) O__law_draw bp__law_draw (hr.mono (by decide)) hx hE (ad_cons (ed_var 0 (pv 0)) (ad_cons (ed_bin o_pow ed_int.toB ed_int.toB) ad_nil))).toB))))
      (sds_one (sd_ret (ed_bin o_mul (ed_var 3 (pv 3)).toB (ed_var 4 (pv 4)).toB)))))))
theorem ok__law_borders {f : Addr} {fd : FuncData} (bt : Bt mg) (ct : Ct K mg) (hm : mg "_law_borders" = some (.ref f)) (F : Fun K "_law_borders" "_law_borders" (top 33) f fd) (O__law_step : OkD P w K mg base T "_law_step" (top 31) 1 ["_law_k", "_law_r", "_law_many"] sp__law_step) : OkD P w K mg base T "_law_borders" (top 33) 2 ["_law_rhomb"] sp__law_borders := by
  refine ⟨f, fd, hm, F, okD (g := g__law_borders) F sc__law_borders len__law_borders (fun cdv A outer s H E W F R hr hE hp hx => ?_) law__law_borders⟩
  have nd := sc__law_borders.nd
  have hu65 := hu65_of hr
  exact (sds_cons (sd_setT (is := [1, 2, 3]) rfl (na_cons (pg_name (i := 1) nd rfl (Or.inl rfl)) (na_cons (pg_name (i := 2) nd rfl (Or.inl rfl)) (na_cons (pg_name (i := 3) nd rfl (Or.inl rfl)) na_nil))) (ed_var 0 (pv 0)))
      (sds_one (sd_ret (fd_lst (ad_cons (ed_tup (ad_cons (ed_tup (ad_cons (ed_var 1 (pv 1)) (ad_cons (ed_var 2 (pv 2)) ad_nil))) (ad_cons (ed_var 3 (pv 3)) (ad_cons ed_int ad_nil)))) (ad_cons (ed_tup (ad_cons (ed_tup (ad_cons (ed_var 1 (pv 1)) (ad_cons (ed_var 3 (pv 3)) ad_nil))) (ad_cons (ed_var 2 (pv 2)) (ad_cons ed_int ad_nil)))) (ad_cons (ed_tup (ad_cons (ed_tup (ad_cons (ed_o (B := ⟨⟨W, T⟩, F, H⟩) (k := 1) O__law_step bp__law_step (hr.mono (by decide)) hx hE (ad_cons (ed_var 1 (pv 1)) (ad_cons (ed_var 3 (pv 3)) (ad_cons ed_int ad_nil)))) (ad_cons (ed_var 2 (pv 2)) ad_nil))) (ad_cons (ed_var 3 (pv 3)) (ad_cons ed_int ad_nil)))) (ad_cons (ed_tup (ad_cons (ed_tup (ad_cons (ed_o (B := ⟨⟨W, T⟩, F, H⟩) (k := 1) O__law_step bp__law_step (hr.mono (by decide)) hx hE (ad_cons (ed_var 1 (pv 1)) (ad_cons (ed_var 2 (pv 2)) (ad_cons ed_int ad_nil)))) (ad_cons (ed_var 3 (pv 3)) ad_nil))) (ad_cons (ed_var 2 (pv 2)) (ad_cons ed_int ad_nil)))) ad_nil))))).toE)))
theorem ok_is_corner_five {f : Addr} {fd : FuncData} (bt : Bt mg) (ct : Ct K mg) (hm : mg "is_corner_five" = some (.ref f)) (F : Fun K "is_corner_five" "is_corner_five" (top 10) f fd) (O_is_five : OkD P w K mg base T "is_five" (top 9) 2 ["thing"] sp_is_five) : OkD P w K mg base T "is_corner_five" (top 10) 3 ["thing"] sp_is_corner_five := by
  refine ⟨f, fd, hm, F, okD (g := g_is_corner_five) F sc_is_corner_five len_is_corner_five (fun cdv A outer s H E W F R hr hE hp hx => ?_) law_is_corner_five⟩
  have nd := sc_is_corner_five.nd
  have hu65 := hu65_of hr
  exact (sds_one (sd_ret (ed_and (ed_o (B := ⟨⟨W, T⟩, F, H⟩) (k := 2) O_is_five bp_is_five (hr.mono (by decide)) hx hE (ad_cons (ed_var 0 (pv 0)) ad_nil)) (ed_one (ed_chain o_le o_le ed_int.toB (ed_callB (c_sum rfl) (by rfl) bt.b_sum nbSum (abd_cons (ed_var 0 (pv 0)).toB abd_nil)).toB ed_int.toB)))))
theorem ok__law_drawn {f : Addr} {fd : FuncData} (bt : Bt mg) (ct : Ct K mg) (hm : mg "_law_drawn" = some (.ref f)) (F : Fun K "_law_drawn" "_law_drawn" (top 32) f fd) (O__law_draw : OkD P w K mg base T "_law_draw" (top 27) 1 ["_law_deck_here", "_law_many"] spDraw) (O__law_integer : OkD P w K mg base T "_law_integer" (top 29) 2 ["_law_deck_here", "_law_pieces"] sp__law_integer) : OkD P w K mg base T "_law_drawn" (top 32) 3 ["_law_deck_here"] sp__law_drawn := by
  refine ⟨f, fd, hm, F, okD (g := g__law_drawn) F sc__law_drawn len__law_drawn (fun cdv A outer s H E W F R hr hE hp hx => ?_) law__law_drawn⟩
  have nd := sc__law_drawn.nd
  have hu65 := hu65_of hr
  exact (sds_cons (sd_parL3 (i := 1) (j := 2) (l := 3) rfl nd rfl rfl rfl (by decide) (by decide) (by decide) rfl rfl rfl (fd_lc (own := [("_law_j", 5)]) rfl nd (pid_rng1 (by rfl) bt.b_range (ad_cons ed_int ad_nil)) (blkOk_by (own := [("_law_j", 5)]) (N := ["_law_deck_here", "_law_found", "_law_at", "_law_r", "_law_s", "_law_j"]) (sc := defScope (top 32)) (by decide +kernel)) (ct_name (by decide)) (fun _ _ _ _ _ => pg_name (i := 5) nd rfl (Or.inl rfl)) (fun _ _ _ _ _ => tds_nil) (fun _ _ _ _ _ => (ed_o (B := ⟨⟨W, T⟩, F, H⟩) (k := 2) O__law_integer bp__law_integer (hr.mono (by decide)) passL FinE.none (ad_cons (ed_var 0 (pv 0)) (ad_cons ed_int ad_nil))))) (ed_o (B := ⟨⟨W, T⟩, F, H⟩) (k := 1) O__law_draw bp__law_draw (hr.mono (by decide)) hx hE (ad_cons (ed_var 0 (pv 0)) (ad_cons ed_int ad_nil))) (ed_o (B := ⟨⟨W, T⟩, F, H⟩) (k := 1) O__law_draw bp__law_draw (hr.mono (by decide)) hx hE (ad_cons (ed_var 0 (pv 0)) (ad_cons ed_int ad_nil))) (by rfl))
      (sds_cons (sd_setI (pv 1) (ed_bin o_sub (ed_bin o_add (ed_bin o_add (ed_ix (bd_var 1 (pv 1)) (ed_var 2 (pv 2)).toB).toB ed_int.toB).toB (ed_o (B := ⟨⟨W, T⟩, F, H⟩) (k := 1) O__law_draw bp__law_draw (hr.mono (by decide)) hx hE (ad_cons (ed_var 0 (pv 0)) (ad_cons ed_int ad_nil))).toB).toB (ed_callB (c_sum rfl) (by rfl) bt.b_sum nbSum (abd_cons (bd_var 1 (pv 1)) abd_nil)).toB) (ed_var 2 (pv 2)).toB)
      (sds_cons (sd_set (i := 4) nd rfl (Or.inl rfl) (ed_bin o_mod (ed_callTy (c_intB ct.dig) (by rfl) bt.b_int nbInt (abd_cons (ed_bin o_add (ed_bin o_add (ed_var 3 (pv 3)).toB ed_int.toB).toB (ed_o (B := ⟨⟨W, T⟩, F, H⟩) (k := 1) O__law_draw bp__law_draw (hr.mono (by decide)) hx hE (ad_cons (ed_var 0 (pv 0)) (ad_cons ed_int ad_nil))).toB).toB abd_nil)).toB ed_int.toB))
      (sds_one (sd_ret (ed_tup (ad_cons (ed_callTy c_tuple (by rfl) bt.b_tuple nbTuple (abd_cons (bd_var 1 (pv 1)) abd_nil)) (ad_cons (ed_callB (c_min2 rfl) (by rfl) bt.b_min nbMin (abd_cons (ed_var 3 (pv 3)).toB (abd_cons (ed_var 4 (pv 4)).toB abd_nil))) (ad_cons (ed_callB (c_max2 rfl) (by rfl) bt.b_max nbMax (abd_cons (ed_var 3 (pv 3)).toB (abd_cons (ed_var 4 (pv 4)).toB abd_nil))) ad_nil)))))))))
theorem ok__law_do_fit {f : Addr} {fd : FuncData} (bt : Bt mg) (ct : Ct K mg) (hm : mg "_law_do_fit" = some (.ref f)) (F : Fun K "_law_do_fit" "_law_do_fit" (top 36) f fd) (O__law_borders : OkD P w K mg base T "_law_borders" (top 33) 2 ["_law_rhomb"] sp__law_borders) (O__law_is_lefthand : OkD P w K mg base T "_law_is_lefthand" (top 34) 1 ["_law_j", "_law_beside", "_law_is_up"] sp__law_is_lefthand) (O__law_mark : OkD P w K mg base T "_law_mark" (top 35) 1 ["_law_rhomb", "_law_edge"] sp__law_mark) : OkD P w K mg base T "_law_do_fit" (top 36) 3 ["_law_near", "_law_far"] sp__law_do_fit := by
  refine ⟨f, fd, hm, F, okD (g := g__law_do_fit) F sc__law_do_fit len__law_do_fit (fun cdv A outer s H E W F R hr hE hp hx => ?_) law__law_do_fit⟩
  have nd := sc__law_do_fit.nd
  have hu65 := hu65_of hr
  exact (sds_cons (sd_set (i := 2) nd rfl (Or.inl rfl) (ed_o (B := ⟨⟨W, T⟩, F, H⟩) (k := 2) O__law_borders bp__law_borders (hr.mono (by decide)) hx hE (ad_cons (ed_var 1 (pv 1)) ad_nil)))
      (sds_cons (sd_for hp rfl (pid_data (ed_o (B := ⟨⟨W, T⟩, F, H⟩) (k := 2) O__law_borders bp__law_borders (hr.mono (by decide)) hx hE (ad_cons (ed_var 0 (pv 0)) ad_nil))) (gd_tup (is := [3, 4, 5]) rfl (na_cons (pg_name (i := 3) nd rfl (Or.inl rfl)) (na_cons (pg_name (i := 4) nd rfl (Or.inl rfl)) (na_cons (pg_name (i := 5) nd rfl (Or.inl rfl)) na_nil)))) (sds_one (sd_for hp rfl (pid_data (ed_var 2 (pv 2))) (gd_name (pg_name (i := 6) nd rfl (Or.inl rfl))) (sds_one (sd_if (td_cmp (o_eq hr.units) (ed_ix (ed_var 6 (pv 6)).toB ed_int.toB).toB (ed_var 3 (pv 3)).toB (nomark _)) (sds_cons (sd_par2 (i := 7) (j := 8) rfl nd rfl rfl (by decide) rfl rfl (ad_cons (ed_o (B := ⟨⟨W, T⟩, F, H⟩) (k := 1) O__law_is_lefthand bp__law_is_lefthand (hr.mono (by decide)) hx hE (ad_cons (ed_ix (ed_var 3 (pv 3)).toB ed_int.toB) (ad_cons (ed_var 4 (pv 4)) (ad_cons (ed_var 5 (pv 5)) ad_nil)))) (ad_cons (ed_o (B := ⟨⟨W, T⟩, F, H⟩) (k := 1) O__law_is_lefthand bp__law_is_lefthand (hr.mono (by decide)) hx hE (ad_cons (ed_ix (ed_var 3 (pv 3)).toB ed_int.toB) (ad_cons (ed_ix (ed_var 6 (pv 6)).toB ed_int.toB) (ad_cons (ed_ix (ed_var 6 (pv 6)).toB ed_int.toB) ad_nil)))) ad_nil)) (by rfl))
      (sds_one (sd_ret (ed_and (ed_cmp (o_ne hr.units) (ed_var 7 (pv 7)).toB (ed_var 8 (pv 8)).toB (nomark _)) (ed_one (ed_cmp (o_eq hr.units) (ed_o (B := ⟨⟨W, T⟩, F, H⟩) (k := 1) O__law_mark bp__law_mark (hr.mono (by decide)) hx hE (ad_cons (ed_var 0 (pv 0)) (ad_cons (ed_var 3 (pv 3)) ad_nil))).toB (ed_o (B := ⟨⟨W, T⟩, F, H⟩) (k := 1) O__law_mark bp__law_mark (hr.mono (by decide)) hx hE (ad_cons (ed_var 1 (pv 1)) (ad_cons (ed_var 3 (pv 3)) ad_nil))).toB (nomark _))))))) sds_nil)))))
      (sds_one (sd_ret ed_bl))))
theorem ok__law_odd {f : Addr} {fd : FuncData} (bt : Bt mg) (ct : Ct K mg) (hm : mg "_law_odd" = some (.ref f)) (F : Fun K "_law_odd" "_law_odd" (top 38) f fd) (O__law_pick : OkD P w K mg base T "_law_pick" (top 28) 2 ["_law_deck_here", "_law_some"] sp__law_pick) : OkD P w K mg base T "_law_odd" (top 38) 3 ["_law_deck_here", "_law_it"] sp__law_odd := by
  refine ⟨f, fd, hm, F, okD (g := g__law_odd) F sc__law_odd len__law_odd (fun cdv A outer s H E W F R hr hE hp hx => ?_) law__law_odd⟩
  have nd := sc__law_odd.nd
  have hu65 := hu65_of hr
  exact (sds_cons (sd_set (i := 2) nd rfl (Or.inl rfl) (fd_lst (ad_cons ed_non (ad_cons ed_bl (ad_cons ed_bl (ad_cons ed_int (ad_cons ed_int (ad_cons (ed_un o_neg ed_int.toB) (ad_cons ed_int (ad_cons ed_int (ad_cons ed_str (ad_cons ed_str (ad_cons (ed_tup ad_nil) (ad_cons (ed_tup (ad_cons (ed_tup ad_nil) ad_nil)) (ad_cons (fd_lst ad_nil).toE (ad_cons ed_dic0 (ad_cons (ed_tup (ad_cons ed_int (ad_cons ed_int (ad_cons ed_int (ad_cons ed_int (ad_cons ed_int ad_nil)))))) (ad_cons (ed_tup (ad_cons ed_int (ad_cons ed_int (ad_cons ed_int (ad_cons ed_int (ad_cons ed_int ad_nil)))))) (ad_cons (ed_tup (ad_cons ed_int (ad_cons ed_int (ad_cons ed_int (ad_cons ed_int (ad_cons ed_int ad_nil)))))) ad_nil)))))))))))))))))).toE)
      (sds_cons (sd_set (i := 2) nd rfl (Or.inl rfl) (ed_bin o_add (ed_var 2 (pv 2)).toB (fd_lst (ad_cons ed_str (ad_cons (ed_tup (ad_cons ed_int (ad_cons ed_int ad_nil))) (ad_cons (ed_tup (ad_cons (ed_tup (ad_cons ed_int (ad_cons ed_int (ad_cons ed_int (ad_cons ed_int (ad_cons ed_int ad_nil)))))) (ad_cons ed_int ad_nil))) (ad_cons (ed_tup (ad_cons (ed_tup (ad_cons ed_int (ad_cons ed_int (ad_cons ed_int (ad_cons ed_int (ad_cons ed_int ad_nil)))))) (ad_cons ed_int (ad_cons ed_int ad_nil)))) (ad_cons (ed_tup (ad_cons (ed_tup (ad_cons ed_int (ad_cons ed_int (ad_cons ed_int (ad_cons ed_int (ad_cons ed_int ad_nil)))))) (ad_cons ed_int (ad_cons ed_int ad_nil)))) (ad_cons (ed_tup (ad_cons (ed_tup (ad_cons ed_int (ad_cons ed_int (ad_cons ed_int (ad_cons ed_int (ad_cons ed_int ad_nil)))))) (ad_cons ed_int (ad_cons ed_int ad_nil)))) ad_nil))))))).toE.toB))
      (sds_cons (sd_set (i := 2) nd rfl (Or.inl rfl) (ed_bin o_add (ed_var 2 (pv 2)).toB (fd_lst (ad_cons (ed_tup (ad_cons (ed_tup (ad_cons ed_int (ad_cons ed_int (ad_cons ed_int (ad_cons ed_int (ad_cons ed_int ad_nil)))))) (ad_cons ed_int (ad_cons ed_int ad_nil)))) (ad_cons (ed_tup (ad_cons (ed_tup (ad_cons ed_bl (ad_cons ed_int (ad_cons ed_int (ad_cons ed_int (ad_cons ed_int ad_nil)))))) (ad_cons ed_int (ad_cons ed_int ad_nil)))) (ad_cons (ed_tup (ad_cons (ed_tup (ad_cons ed_int (ad_cons ed_int (ad_cons ed_int (ad_cons ed_int (ad_cons ed_int ad_nil)))))) (ad_cons ed_int (ad_cons ed_bl ad_nil)))) (ad_cons (ed_dic1 (k := (.inr "k")) pe_str (ed_tup (ad_cons ed_int (ad_cons ed_int ad_nil)))) (ad_cons (ed_tup (ad_cons ed_int (ad_cons ed_int (ad_cons ed_int ad_nil)))) (ad_cons (ed_un o_neg ed_int.toB) ad_nil))))))).toE.toB))
      (sds_cons (sd_if (td_val (ed_callB c_isi (by rfl) bt.b_isinstance nbIsi (abd_cons (ed_var 1 (pv 1)).toB (abd_cons (ed_ty (by rfl) bt.b_tuple nbTuple).toB abd_nil))).toB) (sds_one (sd_set (i := 2) nd rfl (Or.inl rfl) (ed_bin o_add (ed_var 2 (pv 2)).toB (ed_bin o_mul (fd_lst (ad_cons (fd_callTy c_list (by rfl) bt.b_list nbList (abd_cons (ed_var 1 (pv 1)).toB abd_nil)).toE (ad_cons (ed_bin o_add (ed_var 1 (pv 1)).toB (ed_tup (ad_cons ed_int ad_nil)).toB) (ad_cons (ed_sl (ed_var 1 (pv 1)).toB (od_some ed_int) od_none) (ad_cons (ed_sl (ed_var 1 (pv 1)).toB od_none (od_some (ed_un o_neg ed_int.toB))) (ad_cons (ed_rev (ed_var 1 (pv 1)).toB) (ad_cons (ed_tup (ad_cons (ed_var 1 (pv 1)) ad_nil)) (ad_cons (ed_bin o_add (ed_sl (ed_var 1 (pv 1)).toB od_none (od_some ed_int)).toB (ed_var 1 (pv 1)).toB) (ad_cons (ed_bin o_add (ed_sl (ed_var 1 (pv 1)).toB (od_some ed_int) od_none).toB (ed_sl (ed_var 1 (pv 1)).toB od_none (od_some ed_int)).toB) ad_nil))))))))).toE.toB ed_int.toB).toB))) (sds_one (sd_if (td_val (ed_callB c_isi (by rfl) bt.b_isinstance nbIsi (abd_cons (ed_var 1 (pv 1)).toB (abd_cons (ed_ty (by rfl) bt.b_int nbInt).toB abd_nil))).toB) (sds_one (sd_set (i := 2) nd rfl (Or.inl rfl) (ed_bin o_add (ed_var 2 (pv 2)).toB (ed_bin o_mul (fd_lst (ad_cons (ed_bin o_add (ed_var 1 (pv 1)).toB ed_int.toB) (ad_cons (ed_bin o_sub (ed_var 1 (pv 1)).toB ed_int.toB) (ad_cons (ed_un o_neg (ed_var 1 (pv 1)).toB) (ad_cons (ed_cmp (o_eq hr.units) (ed_var 1 (pv 1)).toB ed_int.toB (nomark _)) (ad_cons (fd_lst (ad_cons (ed_var 1 (pv 1)) ad_nil)).toE (ad_cons (ed_tup (ad_cons (ed_var 1 (pv 1)) ad_nil)) (ad_cons (ed_callTy (c_strB rfl ct.dig) (by rfl) bt.b_str nbStr (abd_cons (ed_var 1 (pv 1)).toB abd_nil)) (ad_cons (ed_cmp (o_eq hr.units) (ed_var 1 (pv 1)).toB ed_int.toB (nomark _)) ad_nil))))))))).toE.toB ed_int.toB).toB))) sds_nil)))
      (sds_one (sd_ret (ed_o (B := ⟨⟨W, T⟩, F, H⟩) (k := 2) O__law_pick bp__law_pick (hr.mono (by decide)) hx hE (ad_cons (ed_var 0 (pv 0)) (ad_cons (ed_var 2 (pv 2)) ad_nil)))))))))
theorem ok_is_tile_row {f : Addr} {fd : FuncData} (bt : Bt mg) (ct : Ct K mg) (hm : mg "is_tile_row" = some (.ref f)) (F : Fun K "is_tile_row" "is_tile_row" (top 14) f fd) (O_is_direction : OkD P w K mg base T "is_direction" (top 8) 2 ["thing"] sp_is_direction) (O_is_corner_five : OkD P w K mg base T "is_corner_five" (top 10) 3 ["thing"] sp_is_corner_five) : OkD P w K mg base T "is_tile_row" (top 14) 4 ["thing"] sp_is_tile_row := by
  refine ⟨f, fd, hm, F, okD (g := g_is_tile_row) F sc_is_tile_row len_is_tile_row (fun cdv A outer s H E W F R hr hE hp hx => ?_) law_is_tile_row⟩
  have nd := sc_is_tile_row.nd
  have hu65 := hu65_of hr
  exact (sds_cons (sd_if (wd_or (td_not (td_val (ed_callB c_isi (by rfl) bt.b_isinstance nbIsi (abd_cons (ed_var 0 (pv 0)).toB (abd_cons (ed_ty (by rfl) bt.b_tuple nbTuple).toB abd_nil))).toB)) (wd_or (td_cmp (o_ne hr.units) (ed_callB c_len (by rfl) bt.b_len nbLen (abd_cons (ed_var 0 (pv 0)).toB abd_nil)).toB ed_int.toB (nomark _)) (wd_or1 (td_not (td_val (ed_o (B := ⟨⟨W, T⟩, F, H⟩) (k := 3) O_is_corner_five bp_is_corner_five (hr.mono (by decide)) hx hE (ad_cons (ed_ix (ed_var 0 (pv 0)).toB ed_int.toB) ad_nil)).toB))))).t (sds_one (sd_ret ed_bl)) sds_nil)
      (sds_one (sd_ret (ed_and (ed_cmp o_le (ed_callB (c_sum rfl) (by rfl) bt.b_sum nbSum (abd_cons (ed_ix (ed_var 0 (pv 0)).toB ed_int.toB).toB abd_nil)).toB ed_int.toB (nomark _)) (ed_and (ed_o (B := ⟨⟨W, T⟩, F, H⟩) (k := 2) O_is_direction bp_is_direction (hr.mono (by decide)) hx hE (ad_cons (ed_ix (ed_var 0 (pv 0)).toB ed_int.toB) ad_nil)) (ed_and (ed_o (B := ⟨⟨W, T⟩, F, H⟩) (k := 2) O_is_direction bp_is_direction (hr.mono (by decide)) hx hE (ad_cons (ed_ix (ed_var 0 (pv 0)).toB ed_int.toB) ad_nil)) (ed_one (ed_cmp o_lt (ed_ix (ed_var 0 (pv 0)).toB ed_int.toB).toB (ed_ix (ed_var 0 (pv 0)).toB ed_int.toB).toB (nomark _)))))))))
theorem ok_is_edge_row {f : Addr} {fd : FuncData} (bt : Bt mg) (ct : Ct K mg) (hm : mg "is_edge_row" = some (.ref f)) (F : Fun K "is_edge_row" "is_edge_row" (top 23) f fd) (O_is_corner_five : OkD P w K mg base T "is_corner_five" (top 10) 3 ["thing"] sp_is_corner_five) (O_is_direction : OkD P w K mg base T "is_direction" (top 8) 2 ["thing"] sp_is_direction) : OkD P w K mg base T "is_edge_row" (top 23) 4 ["thing"] sp_is_edge_row := by
  refine ⟨f, fd, hm, F, okD (g := g_is_edge_row) F sc_is_edge_row len_is_edge_row (fun cdv A outer s H E W F R hr hE hp hx => ?_) law_is_edge_row⟩
  have nd := sc_is_edge_row.nd
  have hu65 := hu65_of hr
  exact (sds_cons (sd_if (wd_or (td_not (td_val (ed_callB c_isi (by rfl) bt.b_isinstance nbIsi (abd_cons (ed_var 0 (pv 0)).toB (abd_cons (ed_ty (by rfl) bt.b_tuple nbTuple).toB abd_nil))).toB)) (wd_or1 (td_cmp (o_ne hr.units) (ed_callB c_len (by rfl) bt.b_len nbLen (abd_cons (ed_var 0 (pv 0)).toB abd_nil)).toB ed_int.toB (nomark _)))).t (sds_one (sd_ret ed_bl)) sds_nil)
      (sds_one (sd_ret (ed_and (ed_o (B := ⟨⟨W, T⟩, F, H⟩) (k := 3) O_is_corner_five bp_is_corner_five (hr.mono (by decide)) hx hE (ad_cons (ed_ix (ed_var 0 (pv 0)).toB ed_int.toB) ad_nil)) (ed_one (ed_o (B := ⟨⟨W, T⟩, F, H⟩) (k := 2) O_is_direction bp_is_direction (hr.mono (by decide)) hx hE (ad_cons (ed_ix (ed_var 0 (pv 0)).toB ed_int.toB) ad_nil)))))))
theorem ok_need_tile {f : Addr} {fd : FuncData} (bt : Bt mg) (ct : Ct K mg) (hm : mg "need_tile" = some (.ref f)) (F : Fun K "need_tile" "need_tile" (top 15) f fd) (O_is_tile_row : OkD P w K mg base T "is_tile_row" (top 14) 4 ["thing"] sp_is_tile_row) : OkD P w K mg base T "need_tile" (top 15) 5 ["thing"] sp_need_tile := by
  obtain ⟨C_BadTile, fI_BadTile, T_BadTile, N_BadTile⟩ := ct.er_BadTile
  refine ⟨f, fd, hm, F, okD (g := g_need_tile) F sc_need_tile len_need_tile (fun cdv A outer s H E W F R hr hE hp hx => ?_) law_need_tile⟩
  have nd := sc_need_tile.nd
  have hu65 := hu65_of hr
  exact (sds_one (sd_if (td_not (td_val (ed_o (B := ⟨⟨W, T⟩, F, H⟩) (k := 4) O_is_tile_row bp_is_tile_row (hr.mono (by decide)) hx hE (ad_cons (ed_var 0 (pv 0)) ad_nil)).toB)) (sds_one (sd_raise rfl T_BadTile N_BadTile hr (takes_of rfl rfl rfl rfl) hE (ed_var 0 (pv 0)))) sds_nil))
theorem ok_corners_of {f : Addr} {fd : FuncData} (bt : Bt mg) (ct : Ct K mg) (hm : mg "corners_of" = some (.ref f)) (F : Fun K "corners_of" "corners_of" (top 16) f fd) (O_need_tile : OkD P w K mg base T "need_tile" (top 15) 5 ["thing"] sp_need_tile) (O_raised : OkD P w K mg base T "raised" (top 11) 1 ["row", "direction"] sp_raised) : OkD P w K mg base T "corners_of" (top 16) 6 ["tile"] sp_corners_of := by
  refine ⟨f, fd, hm, F, okD (g := g_corners_of) F sc_corners_of len_corners_of (fun cdv A outer s H E W F R hr hE hp hx => ?_) law_corners_of⟩
  have nd := sc_corners_of.nd
  have hu65 := hu65_of hr
  exact (sds_cons (sd_drop (ed_o (B := ⟨⟨W, T⟩, F, H⟩) (k := 5) O_need_tile bp_need_tile (hr.mono (by decide)) hx hE (ad_cons (ed_var 0 (pv 0)) ad_nil)).toB)
      (sds_cons (sd_setT (is := [1, 2, 3]) rfl (na_cons (pg_name (i := 1) nd rfl (Or.inl rfl)) (na_cons (pg_name (i := 2) nd rfl (Or.inl rfl)) (na_cons (pg_name (i := 3) nd rfl (Or.inl rfl)) na_nil))) (ed_var 0 (pv 0)))
      (sds_cons (sd_set (i := 4) nd rfl (Or.inl rfl) (ed_o (B := ⟨⟨W, T⟩, F, H⟩) (k := 1) O_raised bp_raised (hr.mono (by decide)) hx hE (ad_cons (ed_var 1 (pv 1)) (ad_cons (ed_var 2 (pv 2)) ad_nil))))
      (sds_one (sd_ret (ed_tup (ad_cons (ed_var 1 (pv 1)) (ad_cons (ed_var 4 (pv 4)) (ad_cons (ed_o (B := ⟨⟨W, T⟩, F, H⟩) (k := 1) O_raised bp_raised (hr.mono (by decide)) hx hE (ad_cons (ed_var 1 (pv 1)) (ad_cons (ed_var 3 (pv 3)) ad_nil))) (ad_cons (ed_o (B := ⟨⟨W, T⟩, F, H⟩) (k := 1) O_raised bp_raised (hr.mono (by decide)) hx hE (ad_cons (ed_var 4 (pv 4)) (ad_cons (ed_var 3 (pv 3)) ad_nil))) ad_nil))))))))))
theorem ok_edges_of {f : Addr} {fd : FuncData} (bt : Bt mg) (ct : Ct K mg) (hm : mg "edges_of" = some (.ref f)) (F : Fun K "edges_of" "edges_of" (top 17) f fd) (O_need_tile : OkD P w K mg base T "need_tile" (top 15) 5 ["thing"] sp_need_tile) (O_raised : OkD P w K mg base T "raised" (top 11) 1 ["row", "direction"] sp_raised) : OkD P w K mg base T "edges_of" (top 17) 6 ["tile"] sp_edges_of := by
  refine ⟨f, fd, hm, F, okD (g := g_edges_of) F sc_edges_of len_edges_of (fun cdv A outer s H E W F R hr hE hp hx => ?_) law_edges_of⟩
  have nd := sc_edges_of.nd
  have hu65 := hu65_of hr
  exact (sds_cons (sd_drop (ed_o (B := ⟨⟨W, T⟩, F, H⟩) (k := 5) O_need_tile bp_need_tile (hr.mono (by decide)) hx hE (ad_cons (ed_var 0 (pv 0)) ad_nil)).toB)
      (sds_cons (sd_setT (is := [1, 2, 3]) rfl (na_cons (pg_name (i := 1) nd rfl (Or.inl rfl)) (na_cons (pg_name (i := 2) nd rfl (Or.inl rfl)) (na_cons (pg_name (i := 3) nd rfl (Or.inl rfl)) na_nil))) (ed_var 0 (pv 0)))
      (sds_one (sd_ret (ed_tup (ad_cons (ed_tup (ad_cons (ed_var 1 (pv 1)) (ad_cons (ed_var 2 (pv 2)) ad_nil))) (ad_cons (ed_tup (ad_cons (ed_var 1 (pv 1)) (ad_cons (ed_var 3 (pv 3)) ad_nil))) (ad_cons (ed_tup (ad_cons (ed_o (B := ⟨⟨W, T⟩, F, H⟩) (k := 1) O_raised bp_raised (hr.mono (by decide)) hx hE (ad_cons (ed_var 1 (pv 1)) (ad_cons (ed_var 3 (pv 3)) ad_nil))) (ad_cons (ed_var 2 (pv 2)) ad_nil))) (ad_cons (ed_tup (ad_cons (ed_o (B := ⟨⟨W, T⟩, F, H⟩) (k := 1) O_raised bp_raised (hr.mono (by decide)) hx hE (ad_cons (ed_var 1 (pv 1)) (ad_cons (ed_var 2 (pv 2)) ad_nil))) (ad_cons (ed_var 3 (pv 3)) ad_nil))) ad_nil)))))))))
theorem ok_is_thick {f : Addr} {fd : FuncData} (bt : Bt mg) (ct : Ct K mg) (hm : mg "is_thick" = some (.ref f)) (F : Fun K "is_thick" "is_thick" (top 18) f fd) (O_need_tile : OkD P w K mg base T "need_tile" (top 15) 5 ["thing"] sp_need_tile) (O_are_near : OkD P w K mg base T "are_near" (top 12) 1 ["r", "s"] sp_are_near) : OkD P w K mg base T "is_thick" (top 18) 6 ["tile"] sp_is_thick := by
  refine ⟨f, fd, hm, F, okD (g := g_is_thick) F sc_is_thick len_is_thick (fun cdv A outer s H E W F R hr hE hp hx => ?_) law_is_thick⟩
  have nd := sc_is_thick.nd
  have hu65 := hu65_of hr
  exact (sds_cons (sd_drop (ed_o (B := ⟨⟨W, T⟩, F, H⟩) (k := 5) O_need_tile bp_need_tile (hr.mono (by decide)) hx hE (ad_cons (ed_var 0 (pv 0)) ad_nil)).toB)
      (sds_one (sd_ret (ed_o (B := ⟨⟨W, T⟩, F, H⟩) (k := 1) O_are_near bp_are_near (hr.mono (by decide)) hx hE (ad_cons (ed_ix (ed_var 0 (pv 0)).toB ed_int.toB) (ad_cons (ed_ix (ed_var 0 (pv 0)).toB ed_int.toB) ad_nil))))))
theorem ok_is_low {f : Addr} {fd : FuncData} (bt : Bt mg) (ct : Ct K mg) (hm : mg "is_low" = some (.ref f)) (F : Fun K "is_low" "is_low" (top 19) f fd) (O_need_tile : OkD P w K mg base T "need_tile" (top 15) 5 ["thing"] sp_need_tile) : OkD P w K mg base T "is_low" (top 19) 6 ["tile"] sp_is_low := by
  refine ⟨f, fd, hm, F, okD (g := g_is_low) F sc_is_low len_is_low (fun cdv A outer s H E W F R hr hE hp hx => ?_) law_is_low⟩
  have nd := sc_is_low.nd
  have hu65 := hu65_of hr
  exact (sds_cons (sd_drop (ed_o (B := ⟨⟨W, T⟩, F, H⟩) (k := 5) O_need_tile bp_need_tile (hr.mono (by decide)) hx hE (ad_cons (ed_var 0 (pv 0)) ad_nil)).toB)
      (sds_one (sd_ret (ed_cmp (o_eq hr.units) (ed_callB (c_sum rfl) (by rfl) bt.b_sum nbSum (abd_cons (ed_ix (ed_var 0 (pv 0)).toB ed_int.toB).toB abd_nil)).toB ed_int.toB (nomark _)))))
theorem ok__law_bent' {f : Addr} {fd : FuncData} (bt : Bt mg) (ct : Ct K mg) (hm : mg "_law_bent" = some (.ref f)) (F : Fun K "_law_bent" "_law_bent" (top 39) f fd) (O__law_draw : OkD P w K mg base T "_law_draw" (top 27) 1 ["_law_deck_here", "_law_many"] spDraw) (O__law_odd : OkD P w K mg base T "_law_odd" (top 38) 3 ["_law_deck_here", "_law_it"] sp__law_odd) : ∀ n, OkD P w K mg base T "_law_bent" (top 39) (3 + n + 1) ["_law_deck_here", "_law_it"] (sp__law_bent n) := by
  have step : ∀ (n : Nat) (spR : DSp), OkD P w K mg base T "_law_bent" (top 39) (3 + n) ["_law_deck_here", "_law_it"] spR → (∀ W ds Q R, sp__law_bent n W ds Q R → g__law_bent spR W R (endsD Q) (startD 3 ds)) → OkD P w K mg base T "_law_bent" (top 39) (3 + n + 1) ["_law_deck_here", "_law_it"] (sp__law_bent n) := by
    intro n spR O_rec law
    refine ⟨f, fd, hm, F, okD (g := g__law_bent spR) F sc__law_bent (len__law_bent n) (fun cdv A outer s H E W F R hr hE hp hx => ?_) law⟩
    have nd := sc__law_bent.nd
    have hu65 := hu65_of hr
    exact (sds_cons (sd_if (wd_or (td_not (td_val (ed_callB c_isi (by rfl) bt.b_isinstance nbIsi (abd_cons (ed_var 1 (pv 1)).toB (abd_cons (ed_ty (by rfl) bt.b_tuple nbTuple).toB abd_nil))).toB)) (wd_or (td_cmp (o_eq hr.units) (ed_var 1 (pv 1)).toB (ed_tup ad_nil).toB (nomark _)) (wd_or1 (td_cmp (o_eq hr.units) (ed_o (B := ⟨⟨W, T⟩, F, H⟩) (k := 1) O__law_draw bp__law_draw (hr.mono (by omega)) hx hE (ad_cons (ed_var 0 (pv 0)) (ad_cons ed_int ad_nil))).toB ed_int.toB (nomark _))))).t (sds_one (sd_ret (ed_o (B := ⟨⟨W, T⟩, F, H⟩) (k := 3) O__law_odd bp__law_odd (hr.mono (by omega)) hx hE (ad_cons (ed_var 0 (pv 0)) (ad_cons (ed_var 1 (pv 1)) ad_nil))))) sds_nil)
      (sds_cons (sd_set (i := 2) nd rfl (Or.inl rfl) (ed_o (B := ⟨⟨W, T⟩, F, H⟩) (k := 1) O__law_draw bp__law_draw (hr.mono (by omega)) hx hE (ad_cons (ed_var 0 (pv 0)) (ad_cons (ed_callB c_len (by rfl) bt.b_len nbLen (abd_cons (ed_var 1 (pv 1)).toB abd_nil)) ad_nil))))
      (sds_one (sd_ret (ed_bin o_add (ed_bin o_add (ed_sl (ed_var 1 (pv 1)).toB od_none (od_some (ed_var 2 (pv 2)))).toB (ed_tup (ad_cons (ed_o (B := ⟨⟨W, T⟩, F, H⟩) (k := 3 + n) O_rec bp__law_bent (hr.mono (by omega)) hx hE (ad_cons (ed_var 0 (pv 0)) (ad_cons (ed_ix (ed_var 1 (pv 1)).toB (ed_var 2 (pv 2)).toB) ad_nil))) ad_nil)).toB).toB (ed_sl (ed_var 1 (pv 1)).toB (od_some (ed_bin o_add (ed_var 2 (pv 2)).toB ed_int.toB)) od_none).toB)))))
  intro n
  induction n with
  | zero => exact step 0 _ (okNone hm F) law__law_bent_0
  | succ n ih => exact step (n + 1) _ ih (law__law_bent n)
theorem ok__law_bent {f : Addr} {fd : FuncData} (bt : Bt mg) (ct : Ct K mg) (hm : mg "_law_bent" = some (.ref f)) (F : Fun K "_law_bent" "_law_bent" (top 39) f fd) (O__law_draw : OkD P w K mg base T "_law_draw" (top 27) 1 ["_law_deck_here", "_law_many"] spDraw) (O__law_odd : OkD P w K mg base T "_law_odd" (top 38) 3 ["_law_deck_here", "_law_it"] sp__law_odd) : OkD P w K mg base T "_law_bent" (top 39) 6 ["_law_deck_here", "_law_it"] (sp__law_bent 2) := ok__law_bent' bt ct hm F O__law_draw O__law_odd 2
theorem ok_marks_of {f : Addr} {fd : FuncData} (bt : Bt mg) (ct : Ct K mg) (hm : mg "marks_of" = some (.ref f)) (F : Fun K "marks_of" "marks_of" (top 20) f fd) (O_is_low : OkD P w K mg base T "is_low" (top 19) 6 ["tile"] sp_is_low) (O_is_thick : OkD P w K mg base T "is_thick" (top 18) 6 ["tile"] sp_is_thick) : OkD P w K mg base T "marks_of" (top 20) 7 ["tile"] sp_marks_of := by
  refine ⟨f, fd, hm, F, okD (g := g_marks_of) F sc_marks_of len_marks_of (fun cdv A outer s H E W F R hr hE hp hx => ?_) law_marks_of⟩
  have nd := sc_marks_of.nd
  have hu65 := hu65_of hr
  exact (sds_cons (sd_set (i := 1) nd rfl (Or.inl rfl) (ed_if (td_cmp (o_eq hr.units) (ed_o (B := ⟨⟨W, T⟩, F, H⟩) (k := 6) O_is_thick bp_is_thick (hr.mono (by decide)) hx hE (ad_cons (ed_var 0 (pv 0)) ad_nil)).toB (ed_o (B := ⟨⟨W, T⟩, F, H⟩) (k := 6) O_is_low bp_is_low (hr.mono (by decide)) hx hE (ad_cons (ed_var 0 (pv 0)) ad_nil)).toB (nomark _)) ed_str ed_str))
      (sds_cons (sd_if (td_val (ed_o (B := ⟨⟨W, T⟩, F, H⟩) (k := 6) O_is_low bp_is_low (hr.mono (by decide)) hx hE (ad_cons (ed_var 0 (pv 0)) ad_nil)).toB) (sds_one (sd_ret (ed_tup (ad_cons ed_str (ad_cons ed_str (ad_cons (ed_var 1 (pv 1)) (ad_cons (ed_var 1 (pv 1)) ad_nil))))))) sds_nil)
      (sds_one (sd_ret (ed_tup (ad_cons (ed_var 1 (pv 1)) (ad_cons (ed_var 1 (pv 1)) (ad_cons ed_str (ad_cons ed_str ad_nil)))))))))
theorem ok_is_left {f : Addr} {fd : FuncData} (bt : Bt mg) (ct : Ct K mg) (hm : mg "is_left" = some (.ref f)) (F : Fun K "is_left" "is_left" (top 22) f fd) (O_edges_of : OkD P w K mg base T "edges_of" (top 17) 6 ["tile"] sp_edges_of) (O_is_edge_row : OkD P w K mg base T "is_edge_row" (top 23) 4 ["thing"] sp_is_edge_row) (O_lies_left : OkD P w K mg base T "lies_left" (top 21) 1 ["tile", "number"] sp_lies_left) : OkD P w K mg base T "is_left" (top 22) 7 ["tile", "edge"] sp_is_left := by
  obtain ⟨C_BadEdge, fI_BadEdge, T_BadEdge, N_BadEdge⟩ := ct.er_BadEdge
  refine ⟨f, fd, hm, F, okD (g := g_is_left) F sc_is_left len_is_left (fun cdv A outer s H E W F R hr hE hp hx => ?_) law_is_left⟩
  have nd := sc_is_left.nd
  have hu65 := hu65_of hr
  exact (sds_cons (sd_set (i := 2) nd rfl (Or.inl rfl) (ed_o (B := ⟨⟨W, T⟩, F, H⟩) (k := 6) O_edges_of bp_edges_of (hr.mono (by decide)) hx hE (ad_cons (ed_var 0 (pv 0)) ad_nil)))
      (sds_cons (sd_for hp rfl (pid_rng1 (by rfl) bt.b_range (ad_cons ed_int ad_nil)) (gd_name (pg_name (i := 3) nd rfl (Or.inl rfl))) (sds_one (sd_if (wd_and (td_cmp (o_eqA hu65) (ed_ix (ed_var 2 (pv 2)).toB (ed_var 3 (pv 3)).toB).toB (ed_var 1 (pv 1)).toB (nomark _)) (wd_and1 (td_val (ed_o (B := ⟨⟨W, T⟩, F, H⟩) (k := 4) O_is_edge_row bp_is_edge_row (hr.mono (by decide)) hx hE (ad_cons (ed_var 1 (pv 1)) ad_nil)).toB))).t (sds_one (sd_ret (ed_o (B := ⟨⟨W, T⟩, F, H⟩) (k := 1) O_lies_left bp_lies_left (hr.mono (by decide)) hx hE (ad_cons (ed_var 0 (pv 0)) (ad_cons (ed_var 3 (pv 3)) ad_nil))))) sds_nil)))
      (sds_one (sd_raise rfl T_BadEdge N_BadEdge hr (takes_of rfl rfl rfl rfl) hE (ed_var 1 (pv 1))))))
theorem ok__law_maybe {f : Addr} {fd : FuncData} (bt : Bt mg) (ct : Ct K mg) (hm : mg "_law_maybe" = some (.ref f)) (F : Fun K "_law_maybe" "_law_maybe" (top 40) f fd) (O__law_bent : OkD P w K mg base T "_law_bent" (top 39) 6 ["_law_deck_here", "_law_it"] (sp__law_bent 2)) (O__law_draw : OkD P w K mg base T "_law_draw" (top 27) 1 ["_law_deck_here", "_law_many"] spDraw) : OkD P w K mg base T "_law_maybe" (top 40) 7 ["_law_deck_here", "_law_it"] sp__law_maybe := by
  refine ⟨f, fd, hm, F, okD (g := g__law_maybe) F sc__law_maybe len__law_maybe (fun cdv A outer s H E W F R hr hE hp hx => ?_) law__law_maybe⟩
  have nd := sc__law_maybe.nd
  have hu65 := hu65_of hr
  exact (sds_one (sd_ret (ed_if (td_cmp (o_eq hr.units) (ed_o (B := ⟨⟨W, T⟩, F, H⟩) (k := 1) O__law_draw bp__law_draw (hr.mono (by decide)) hx hE (ad_cons (ed_var 0 (pv 0)) (ad_cons ed_int ad_nil))).toB ed_int.toB (nomark _)) (ed_o (B := ⟨⟨W, T⟩, F, H⟩) (k := 6) O__law_bent bp__law_bent (hr.mono (by decide)) hx hE (ad_cons (ed_var 0 (pv 0)) (ad_cons (ed_var 1 (pv 1)) ad_nil))) (ed_var 1 (pv 1)))))
theorem ok_does_fit {f : Addr} {fd : FuncData} (bt : Bt mg) (ct : Ct K mg) (hm : mg "does_fit" = some (.ref f)) (F : Fun K "does_fit" "does_fit" (top 24) f fd) (O_edges_of : OkD P w K mg base T "edges_of" (top 17) 6 ["tile"] sp_edges_of) (O_lies_left : OkD P w K mg base T "lies_left" (top 21) 1 ["tile", "number"] sp_lies_left) (O_marks_of : OkD P w K mg base T "marks_of" (top 20) 7 ["tile"] sp_marks_of) : OkD P w K mg base T "does_fit" (top 24) 8 ["one", "other"] sp_does_fit := by
  refine ⟨f, fd, hm, F, okD (g := g_does_fit) F sc_does_fit len_does_fit (fun cdv A outer s H E W F R hr hE hp hx => ?_) law_does_fit⟩
  have nd := sc_does_fit.nd
  have hu65 := hu65_of hr
  exact (sds_cons (sd_par2 (i := 2) (j := 3) rfl nd rfl rfl (by decide) rfl rfl (ad_cons (ed_o (B := ⟨⟨W, T⟩, F, H⟩) (k := 6) O_edges_of bp_edges_of (hr.mono (by decide)) hx hE (ad_cons (ed_var 0 (pv 0)) ad_nil)) (ad_cons (ed_o (B := ⟨⟨W, T⟩, F, H⟩) (k := 6) O_edges_of bp_edges_of (hr.mono (by decide)) hx hE (ad_cons (ed_var 1 (pv 1)) ad_nil)) ad_nil)) (by rfl))
      (sds_cons (sd_for hp rfl (pid_rng1 (by rfl) bt.b_range (ad_cons ed_int ad_nil)) (gd_name (pg_name (i := 4) nd rfl (Or.inl rfl))) (sds_one (sd_for hp rfl (pid_rng1 (by rfl) bt.b_range (ad_cons ed_int ad_nil)) (gd_name (pg_name (i := 5) nd rfl (Or.inl rfl))) (sds_one (sd_if (wd_and (td_cmp (o_eq hr.units) (ed_ix (ed_var 2 (pv 2)).toB (ed_var 4 (pv 4)).toB).toB (ed_ix (ed_var 3 (pv 3)).toB (ed_var 5 (pv 5)).toB).toB (nomark _)) (wd_and1 (td_cmp (o_ne hr.units) (ed_o (B := ⟨⟨W, T⟩, F, H⟩) (k := 1) O_lies_left bp_lies_left (hr.mono (by decide)) hx hE (ad_cons (ed_var 0 (pv 0)) (ad_cons (ed_var 4 (pv 4)) ad_nil))).toB (ed_o (B := ⟨⟨W, T⟩, F, H⟩) (k := 1) O_lies_left bp_lies_left (hr.mono (by decide)) hx hE (ad_cons (ed_var 1 (pv 1)) (ad_cons (ed_var 5 (pv 5)) ad_nil))).toB (nomark _)))).t (sds_one (sd_if (td_cmp (o_eq hr.units) (ed_ix (ed_o (B := ⟨⟨W, T⟩, F, H⟩) (k := 7) O_marks_of bp_marks_of (hr.mono (by decide)) hx hE (ad_cons (ed_var 0 (pv 0)) ad_nil)).toB (ed_var 4 (pv 4)).toB).toB (ed_ix (ed_o (B := ⟨⟨W, T⟩, F, H⟩) (k := 7) O_marks_of bp_marks_of (hr.mono (by decide)) hx hE (ad_cons (ed_var 1 (pv 1)) ad_nil)).toB (ed_var 5 (pv 5)).toB).toB (nomark _)) (sds_one (sd_ret ed_bl)) sds_nil)) sds_nil)))))
      (sds_one (sd_ret ed_bl))))
theorem ok__law_are_neighbours_right {f : Addr} {fd : FuncData} (bt : Bt mg) (ct : Ct K mg) (hm : mg "_law_are_neighbours_right" = some (.ref f)) (F : Fun K "_law_are_neighbours_right" "_law_are_neighbours_right" (top 44) f fd) (O__law_borders : OkD P w K mg base T "_law_borders" (top 33) 2 ["_law_rhomb"] sp__law_borders) (O__law_same : OkG P w K mg base T "_law_same" (top 30) 1 ["_law_told_here", "_law_due"] sp__law_same) (O_is_left : OkD P w K mg base T "is_left" (top 22) 7 ["tile", "edge"] sp_is_left) (O__law_is_lefthand : OkD P w K mg base T "_law_is_lefthand" (top 34) 1 ["_law_j", "_law_beside", "_law_is_up"] sp__law_is_lefthand) (O__law_step : OkD P w K mg base T "_law_step" (top 31) 1 ["_law_k", "_law_r", "_law_many"] sp__law_step) (O__law_do_fit : OkD P w K mg base T "_law_do_fit" (top 36) 3 ["_law_near", "_law_far"] sp__law_do_fit) (O_does_fit : OkD P w K mg base T "does_fit" (top 24) 8 ["one", "other"] sp_does_fit) : OkG P w K mg base T "_law_are_neighbours_right" (top 44) 9 ["_law_rhomb"] sp__law_are_neighbours_right := by
  refine ⟨f, fd, hm, F, okG (g := g__law_are_neighbours_right) F sc__law_are_neighbours_right len__law_are_neighbours_right (fun cdv A outer s H E W F R hG hr hE hp hx => ?_) law__law_are_neighbours_right⟩
  have nd := sc__law_are_neighbours_right.nd
  have hu65 := hu65_of hr
  exact (sds_cons (sd_for hp rfl (pid_data (ed_o (B := ⟨⟨W, T⟩, F, H⟩) (k := 2) O__law_borders bp__law_borders (hr.mono (by decide)) hx hE (ad_cons (ed_var 0 (pv 0)) ad_nil))) (gd_tup (is := [1, 2, 3]) rfl (na_cons (pg_name (i := 1) nd rfl (Or.inr rfl)) (na_cons (pg_name (i := 2) nd rfl (Or.inl rfl)) (na_cons (pg_name (i := 3) nd rfl (Or.inl rfl)) na_nil)))) (sds_cons (sd_if (td_not (td_val (ed_g (B := ⟨⟨W, T⟩, F, H⟩) (k := 1) O__law_same bp__law_same hG (hr.mono (by decide)) hx hE (ad_cons (ed_o (B := ⟨⟨W, T⟩, F, H⟩) (k := 7) O_is_left bp_is_left (hr.mono (by decide)) hx hE (ad_cons (ed_var 0 (pv 0)) (ad_cons (ed_var 1 (pv 1)) ad_nil))) (ad_cons (ed_o (B := ⟨⟨W, T⟩, F, H⟩) (k := 1) O__law_is_lefthand bp__law_is_lefthand (hr.mono (by decide)) hx hE (ad_cons (ed_ix (ed_var 1 (pv 1)).toB ed_int.toB) (ad_cons (ed_var 2 (pv 2)) (ad_cons (ed_var 3 (pv 3)) ad_nil)))) ad_nil))).toB)) (sds_one (sd_ret ed_bl)) sds_nil)
      (sds_one (sd_for hp rfl (pid_data (fd_lc (own := [("_law_s", 4)]) rfl nd (pid_rng1 (by rfl) bt.b_range (ad_cons ed_int ad_nil)) (blkOk_by (own := [("_law_s", 4)]) (N := ["_law_rhomb", "_law_edge", "_law_beside", "_law_is_up", "_law_s", "_law_many", "_law_foot", "_law_far", "_law_due"]) (sc := defScope (top 44)) (by decide +kernel)) (ct_name (by decide)) (fun _ _ _ _ _ => pg_name (i := 4) nd rfl (Or.inl rfl)) (fun _ _ _ _ _ => (tds_one (td_cmp (o_ne hr.units) (ed_var 4 (pv 4)).toB (ed_ix (ed_var 1 (pv 1)).toB ed_int.toB).toB (nomark _)))) (fun _ _ _ _ _ => (ed_var 4 (pv 4)))).toE) (gd_name (pg_name (i := 4) nd rfl (Or.inl rfl))) (sds_one (sd_for hp rfl (pid_data (ed_tup (ad_cons ed_int (ad_cons (ed_un o_neg ed_int.toB) ad_nil)))) (gd_name (pg_name (i := 5) nd rfl (Or.inl rfl))) (sds_cons (sd_set (i := 6) nd rfl (Or.inl rfl) (ed_o (B := ⟨⟨W, T⟩, F, H⟩) (k := 1) O__law_step bp__law_step (hr.mono (by decide)) hx hE (ad_cons (ed_ix (ed_var 1 (pv 1)).toB ed_int.toB) (ad_cons (ed_var 4 (pv 4)) (ad_cons (ed_var 5 (pv 5)) ad_nil)))))
      (sds_one (sd_if (td_cmp (o_in hu65) (ed_callB (c_sum rfl) (by rfl) bt.b_sum nbSum (abd_cons (ed_var 6 (pv 6)).toB abd_nil)).toB (ed_tup (ad_cons ed_int (ad_cons ed_int ad_nil))).toB (by rfl)) (sds_cons (sd_set (i := 7) nd rfl (Or.inl rfl) (ed_tup (ad_cons (ed_var 6 (pv 6)) (ad_cons (ed_callB (c_min2 rfl) (by rfl) bt.b_min nbMin (abd_cons (ed_ix (ed_var 1 (pv 1)).toB ed_int.toB).toB (abd_cons (ed_var 4 (pv 4)).toB abd_nil))) (ad_cons (ed_callB (c_max2 rfl) (by rfl) bt.b_max nbMax (abd_cons (ed_ix (ed_var 1 (pv 1)).toB ed_int.toB).toB (abd_cons (ed_var 4 (pv 4)).toB abd_nil))) ad_nil)))))
      (sds_cons (sd_set (i := 8) nd rfl (Or.inl rfl) (ed_and (ed_cmp (o_ne hr.units) (ed_var 7 (pv 7)).toB (ed_var 0 (pv 0)).toB (nomark _)) (ed_one (ed_o (B := ⟨⟨W, T⟩, F, H⟩) (k := 3) O__law_do_fit bp__law_do_fit (hr.mono (by decide)) hx hE (ad_cons (ed_var 0 (pv 0)) (ad_cons (ed_var 7 (pv 7)) ad_nil))))))
      (sds_one (sd_if (td_not (td_val (ed_g (B := ⟨⟨W, T⟩, F, H⟩) (k := 1) O__law_same bp__law_same hG (hr.mono (by decide)) hx hE (ad_cons (ed_tup (ad_cons (ed_o (B := ⟨⟨W, T⟩, F, H⟩) (k := 8) O_does_fit bp_does_fit (hr.mono (by decide)) hx hE (ad_cons (ed_var 0 (pv 0)) (ad_cons (ed_var 7 (pv 7)) ad_nil))) (ad_cons (ed_o (B := ⟨⟨W, T⟩, F, H⟩) (k := 8) O_does_fit bp_does_fit (hr.mono (by decide)) hx hE (ad_cons (ed_var 7 (pv 7)) (ad_cons (ed_var 0 (pv 0)) ad_nil))) ad_nil))) (ad_cons (ed_tup (ad_cons (ed_var 8 (pv 8)) (ad_cons (ed_var 8 (pv 8)) ad_nil))) ad_nil))).toB)) (sds_one (sd_ret ed_bl)) sds_nil)))) sds_nil)))))))))
      (sds_one (sd_ret ed_bl)))
theorem ok__law_is_alone_right {f : Addr} {c__law_is_alone_right Pt__law_is_alone_right : Addr} (tb__law_is_alone_right : LamX.TabB base mg c__law_is_alone_right Pt__law_is_alone_right) (inT__law_is_alone_right : (Pt__law_is_alone_right, ql__law_is_alone_right) ∈ T) (one__law_is_alone_right : ∀ p ∈ T, p.1 = Pt__law_is_alone_right → p.2 = ql__law_is_alone_right) (bt : Bt mg) (ct : Ct K mg) (hm : mg "_law_is_alone_right" = some (.ref f)) (F : FunC K "_law_is_alone_right" (top 42) f (.ref c__law_is_alone_right)) (O__law_is_tile : OkD P w K mg base T "_law_is_tile" (top 37) 1 ["_law_thing"] sp__law_is_tile) (O__law_same : OkG P w K mg base T "_law_same" (top 30) 1 ["_law_told_here", "_law_due"] sp__law_same) (O__law_told : ∀ k, OkL P w K mg base T "_law_told" (top 41) k ["_law_call", "_law_told_here", "e"] "_law_call" sp__law_told) (O__law_step : OkD P w K mg base T "_law_step" (top 31) 1 ["_law_k", "_law_r", "_law_many"] sp__law_step) (O_is_tile_row : OkD P w K mg base T "is_tile_row" (top 14) 4 ["thing"] sp_is_tile_row) (O_corners_of : OkD P w K mg base T "corners_of" (top 16) 6 ["tile"] sp_corners_of) (O_edges_of : OkD P w K mg base T "edges_of" (top 17) 6 ["tile"] sp_edges_of) (O_is_thick : OkD P w K mg base T "is_thick" (top 18) 6 ["tile"] sp_is_thick) (O_is_low : OkD P w K mg base T "is_low" (top 19) 6 ["tile"] sp_is_low) (O_marks_of : OkD P w K mg base T "marks_of" (top 20) 7 ["tile"] sp_marks_of) (O__law_borders : OkD P w K mg base T "_law_borders" (top 33) 2 ["_law_rhomb"] sp__law_borders) (O__law_mark : OkD P w K mg base T "_law_mark" (top 35) 1 ["_law_rhomb", "_law_edge"] sp__law_mark) : OkG P w K mg base T "_law_is_alone_right" (top 42) 10 ["_law_thing"] sp__law_is_alone_right := by
  refine okGc (g := g__law_is_alone_right) hm F sc__law_is_alone_right len__law_is_alone_right (fun A outer s H E W F R hG hr hE hp hx => ?_) law__law_is_alone_right
  have nd := sc__law_is_alone_right.nd
  have hu65 := hu65_of hr
  exact (sds_cons (sd_if (td_not (td_val (ed_g (B := ⟨⟨W, T⟩, F, H⟩) (k := 1) O__law_same bp__law_same hG (hr.mono (by decide)) hx hE (ad_cons (ed_tup (ad_cons (ed_o (B := ⟨⟨W, T⟩, F, H⟩) (k := 4) O_is_tile_row bp_is_tile_row (hr.mono (by decide)) hx hE (ad_cons (ed_var 0 (pv 0)) ad_nil)) (ad_cons (ed_ok0 (B := ⟨⟨W, T⟩, F, H⟩) (k := 4) O_is_tile_row (by decide) kb_is_tile_row_0 (hr.mono (by decide)) hx hE (kd_cons (ed_var 0 (pv 0)) kd_nil)) ad_nil))) (ad_cons (ed_tup (ad_cons (ed_o (B := ⟨⟨W, T⟩, F, H⟩) (k := 1) O__law_is_tile bp__law_is_tile (hr.mono (by decide)) hx hE (ad_cons (ed_var 0 (pv 0)) ad_nil)) (ad_cons (ed_o (B := ⟨⟨W, T⟩, F, H⟩) (k := 1) O__law_is_tile bp__law_is_tile (hr.mono (by decide)) hx hE (ad_cons (ed_var 0 (pv 0)) ad_nil)) ad_nil))) ad_nil))).toB)) (sds_one (sd_ret ed_bl)) sds_nil)
      (sds_cons (sd_setL (i := 1) nd rfl (Or.inl rfl) (fd_bin o_repF (fd_lst (ad_cons (ed_tup (ad_cons ed_str (ad_cons (ed_var 0 (pv 0)) (ad_cons ed_bl ad_nil)))) ad_nil)).toE.toB ed_int.toB))
      (sds_cons (sd_if (td_val (ed_o (B := ⟨⟨W, T⟩, F, H⟩) (k := 1) O__law_is_tile bp__law_is_tile (hr.mono (by decide)) hx hE (ad_cons (ed_var 0 (pv 0)) ad_nil)).toB) (sds_cons (sd_setT (is := [3, 4, 5]) rfl (na_cons (pg_name (i := 3) nd rfl (Or.inl rfl)) (na_cons (pg_name (i := 4) nd rfl (Or.inl rfl)) (na_cons (pg_name (i := 5) nd rfl (Or.inl rfl)) na_nil))) (ed_var 0 (pv 0)))
      (sds_cons (sd_set (i := 6) nd rfl (Or.inl rfl) (ed_callTy c_tuple (by rfl) bt.b_tuple nbTuple (abd_cons (fd_lc (own := [("_law_it", 8)]) rfl nd (pid_data (ed_o (B := ⟨⟨W, T⟩, F, H⟩) (k := 2) O__law_borders bp__law_borders (hr.mono (by decide)) hx hE (ad_cons (ed_var 0 (pv 0)) ad_nil))) (blkOk_by (own := [("_law_it", 8)]) (N := ["_law_thing", "_law_due", "_law_told_here", "_law_k", "_law_r", "_law_s", "_law_sides", "_law_four", "_law_it", "_law_edge"]) (sc := defScope (top 42)) (by decide +kernel)) (ct_name (by decide)) (fun _ _ _ _ _ => pg_name (i := 8) nd rfl (Or.inl rfl)) (fun _ _ _ _ _ => tds_nil) (fun _ _ _ _ _ => (ed_ix (ed_var 8 (pv 8)).toB ed_int.toB))).toE.toB abd_nil)))
      (sds_cons (sd_set (i := 7) nd rfl (Or.inl rfl) (ed_tup (ad_cons (ed_var 3 (pv 3)) (ad_cons (ed_o (B := ⟨⟨W, T⟩, F, H⟩) (k := 1) O__law_step bp__law_step (hr.mono (by decide)) hx hE (ad_cons (ed_var 3 (pv 3)) (ad_cons (ed_var 4 (pv 4)) (ad_cons ed_int ad_nil)))) (ad_cons (ed_o (B := ⟨⟨W, T⟩, F, H⟩) (k := 1) O__law_step bp__law_step (hr.mono (by decide)) hx hE (ad_cons (ed_var 3 (pv 3)) (ad_cons (ed_var 5 (pv 5)) (ad_cons ed_int ad_nil)))) (ad_cons (ed_o (B := ⟨⟨W, T⟩, F, H⟩) (k := 1) O__law_step bp__law_step (hr.mono (by decide)) hx hE (ad_cons (ed_o (B := ⟨⟨W, T⟩, F, H⟩) (k := 1) O__law_step bp__law_step (hr.mono (by decide)) hx hE (ad_cons (ed_var 3 (pv 3)) (ad_cons (ed_var 4 (pv 4)) (ad_cons ed_int ad_nil)))) (ad_cons (ed_var 5 (pv 5)) (ad_cons ed_int ad_nil)))) ad_nil))))))
      (sds_cons (sd_setL (i := 1) nd rfl (Or.inl rfl) (fd_lst (ad_cons (ed_tup (ad_cons ed_str (ad_cons (ed_var 7 (pv 7)) ad_nil))) (ad_cons (ed_tup (ad_cons ed_str (ad_cons (ed_var 6 (pv 6)) ad_nil))) (ad_cons (ed_tup (ad_cons ed_str (ad_cons (ed_cmp (o_in hu65) (ed_bin o_sub (ed_var 5 (pv 5)).toB (ed_var 4 (pv 4)).toB).toB (ed_tup (ad_cons ed_int (ad_cons ed_int ad_nil))).toB (by rfl)) ad_nil))) (ad_cons (ed_tup (ad_cons ed_str (ad_cons (ed_cmp (o_eq hr.units) (ed_callB (c_sum rfl) (by rfl) bt.b_sum nbSum (abd_cons (ed_var 3 (pv 3)).toB abd_nil)).toB ed_int.toB (nomark _)) ad_nil))) ad_nil))))))
      (sds_one (sd_appE (pv 1) (ed_tup (ad_cons ed_str (ad_cons (ed_callTy c_tuple (by rfl) bt.b_tuple nbTuple (abd_cons (fd_lc (own := [("_law_edge", 9)]) rfl nd (pid_data (ed_var 6 (pv 6))) (blkOk_by (own := [("_law_edge", 9)]) (N := ["_law_thing", "_law_due", "_law_told_here", "_law_k", "_law_r", "_law_s", "_law_sides", "_law_four", "_law_it", "_law_edge"]) (sc := defScope (top 42)) (by decide +kernel)) (ct_name (by decide)) (fun _ _ _ _ _ => pg_name (i := 9) nd rfl (Or.inl rfl)) (fun _ _ _ _ _ => tds_nil) (fun _ _ _ _ _ => (ed_o (B := ⟨⟨W, T⟩, F, H⟩) (k := 1) O__law_mark bp__law_mark (hr.mono (by decide)) passL FinE.none (ad_cons (ed_var 0 (pv 0)) (ad_cons (ed_var 9 (pv 9)) ad_nil))))).toE.toB abd_nil)) ad_nil))))))))) sds_nil)
      (sds_cons (sd_setL (i := 2) nd rfl (Or.inl rfl) (fd_lst (ad_cons (ed_lam (B := ⟨⟨W, T⟩, F, H⟩) (fl := fun R => (gCall sp_corners_of W R (gCons (gVar 0) gNil))) (k := 7) (O__law_told _) bp__law_told tb__law_is_alone_right rfl inT__law_is_alone_right one__law_is_alone_right (hr.mono (by decide)) (LamX.lamS_by (sc := defScope (top 42)) (by decide +kernel)) (fun A outer s H E f c' F' H' R hr hE hx => (ed_o (B := ⟨⟨W, T⟩, F', H'⟩) (k := 6) O_corners_of bp_corners_of (hr.mono (by decide)) hx hE (ad_cons (ed_var 0 (pv 0)) ad_nil))) rfl vis__law_told rfl (fun _ _ _ _ _ => rfl)) ad_nil)))
      (sds_cons (sd_appE (pv 2) (ed_lam (B := ⟨⟨W, T⟩, F, H⟩) (fl := fun R => (gCall sp_edges_of W R (gCons (gVar 0) gNil))) (k := 7) (O__law_told _) bp__law_told tb__law_is_alone_right rfl inT__law_is_alone_right one__law_is_alone_right (hr.mono (by decide)) (LamX.lamS_by (sc := defScope (top 42)) (by decide +kernel)) (fun A outer s H E f c' F' H' R hr hE hx => (ed_o (B := ⟨⟨W, T⟩, F', H'⟩) (k := 6) O_edges_of bp_edges_of (hr.mono (by decide)) hx hE (ad_cons (ed_var 0 (pv 0)) ad_nil))) rfl vis__law_told rfl (fun _ _ _ _ _ => rfl)))
      (sds_cons (sd_appE (pv 2) (ed_lam (B := ⟨⟨W, T⟩, F, H⟩) (fl := fun R => (gCall sp_is_thick W R (gCons (gVar 0) gNil))) (k := 7) (O__law_told _) bp__law_told tb__law_is_alone_right rfl inT__law_is_alone_right one__law_is_alone_right (hr.mono (by decide)) (LamX.lamS_by (sc := defScope (top 42)) (by decide +kernel)) (fun A outer s H E f c' F' H' R hr hE hx => (ed_o (B := ⟨⟨W, T⟩, F', H'⟩) (k := 6) O_is_thick bp_is_thick (hr.mono (by decide)) hx hE (ad_cons (ed_var 0 (pv 0)) ad_nil))) rfl vis__law_told rfl (fun _ _ _ _ _ => rfl)))
      (sds_cons (sd_appE (pv 2) (ed_lam (B := ⟨⟨W, T⟩, F, H⟩) (fl := fun R => (gCall sp_is_low W R (gCons (gVar 0) gNil))) (k := 7) (O__law_told _) bp__law_told tb__law_is_alone_right rfl inT__law_is_alone_right one__law_is_alone_right (hr.mono (by decide)) (LamX.lamS_by (sc := defScope (top 42)) (by decide +kernel)) (fun A outer s H E f c' F' H' R hr hE hx => (ed_o (B := ⟨⟨W, T⟩, F', H'⟩) (k := 6) O_is_low bp_is_low (hr.mono (by decide)) hx hE (ad_cons (ed_var 0 (pv 0)) ad_nil))) rfl vis__law_told rfl (fun _ _ _ _ _ => rfl)))
      (sds_cons (sd_appE (pv 2) (ed_lam (B := ⟨⟨W, T⟩, F, H⟩) (fl := fun R => (gCall sp_marks_of W R (gCons (gVar 0) gNil))) (k := 7) (O__law_told _) bp__law_told tb__law_is_alone_right rfl inT__law_is_alone_right one__law_is_alone_right (hr.mono (by decide)) (LamX.lamS_by (sc := defScope (top 42)) (by decide +kernel)) (fun A outer s H E f c' F' H' R hr hE hx => (ed_o (B := ⟨⟨W, T⟩, F', H'⟩) (k := 7) O_marks_of bp_marks_of (hr.mono (by decide)) hx hE (ad_cons (ed_var 0 (pv 0)) ad_nil))) rfl vis__law_told rfl (fun _ _ _ _ _ => rfl)))
      (sds_cons (sd_appE (pv 2) (ed_lam (B := ⟨⟨W, T⟩, F, H⟩) (fl := fun R => (gCallK sp_corners_of 0 1 [0] W R gNil (gCons (gVar 0) gNil))) (k := 7) (O__law_told _) bp__law_told tb__law_is_alone_right rfl inT__law_is_alone_right one__law_is_alone_right (hr.mono (by decide)) (LamX.lamS_by (sc := defScope (top 42)) (by decide +kernel)) (fun A outer s H E f c' F' H' R hr hE hx => (ed_ok0 (B := ⟨⟨W, T⟩, F', H'⟩) (k := 6) O_corners_of (by decide) kb_corners_of_0 (hr.mono (by decide)) hx hE (kd_cons (ed_var 0 (pv 0)) kd_nil))) rfl vis__law_told rfl (fun _ _ _ _ _ => rfl)))
      (sds_cons (sd_appE (pv 2) (ed_lam (B := ⟨⟨W, T⟩, F, H⟩) (fl := fun R => (gCallK sp_edges_of 0 1 [0] W R gNil (gCons (gVar 0) gNil))) (k := 7) (O__law_told _) bp__law_told tb__law_is_alone_right rfl inT__law_is_alone_right one__law_is_alone_right (hr.mono (by decide)) (LamX.lamS_by (sc := defScope (top 42)) (by decide +kernel)) (fun A outer s H E f c' F' H' R hr hE hx => (ed_ok0 (B := ⟨⟨W, T⟩, F', H'⟩) (k := 6) O_edges_of (by decide) kb_edges_of_0 (hr.mono (by decide)) hx hE (kd_cons (ed_var 0 (pv 0)) kd_nil))) rfl vis__law_told rfl (fun _ _ _ _ _ => rfl)))
      (sds_cons (sd_appE (pv 2) (ed_lam (B := ⟨⟨W, T⟩, F, H⟩) (fl := fun R => (gCallK sp_is_thick 0 1 [0] W R gNil (gCons (gVar 0) gNil))) (k := 7) (O__law_told _) bp__law_told tb__law_is_alone_right rfl inT__law_is_alone_right one__law_is_alone_right (hr.mono (by decide)) (LamX.lamS_by (sc := defScope (top 42)) (by decide +kernel)) (fun A outer s H E f c' F' H' R hr hE hx => (ed_ok0 (B := ⟨⟨W, T⟩, F', H'⟩) (k := 6) O_is_thick (by decide) kb_is_thick_0 (hr.mono (by decide)) hx hE (kd_cons (ed_var 0 (pv 0)) kd_nil))) rfl vis__law_told rfl (fun _ _ _ _ _ => rfl)))
      (sds_cons (sd_appE (pv 2) (ed_lam (B := ⟨⟨W, T⟩, F, H⟩) (fl := fun R => (gCallK sp_is_low 0 1 [0] W R gNil (gCons (gVar 0) gNil))) (k := 7) (O__law_told _) bp__law_told tb__law_is_alone_right rfl inT__law_is_alone_right one__law_is_alone_right (hr.mono (by decide)) (LamX.lamS_by (sc := defScope (top 42)) (by decide +kernel)) (fun A outer s H E f c' F' H' R hr hE hx => (ed_ok0 (B := ⟨⟨W, T⟩, F', H'⟩) (k := 6) O_is_low (by decide) kb_is_low_0 (hr.mono (by decide)) hx hE (kd_cons (ed_var 0 (pv 0)) kd_nil))) rfl vis__law_told rfl (fun _ _ _ _ _ => rfl)))
      (sds_cons (sd_appE (pv 2) (ed_lam (B := ⟨⟨W, T⟩, F, H⟩) (fl := fun R => (gCallK sp_marks_of 0 1 [0] W R gNil (gCons (gVar 0) gNil))) (k := 7) (O__law_told _) bp__law_told tb__law_is_alone_right rfl inT__law_is_alone_right one__law_is_alone_right (hr.mono (by decide)) (LamX.lamS_by (sc := defScope (top 42)) (by decide +kernel)) (fun A outer s H E f c' F' H' R hr hE hx => (ed_ok0 (B := ⟨⟨W, T⟩, F', H'⟩) (k := 7) O_marks_of (by decide) kb_marks_of_0 (hr.mono (by decide)) hx hE (kd_cons (ed_var 0 (pv 0)) kd_nil))) rfl vis__law_told rfl (fun _ _ _ _ _ => rfl)))
      (sds_one (sd_fz 2 (sd_ret (ed_g (B := ⟨⟨W, T⟩, F, H⟩) (k := 1) O__law_same bp__law_same hG (hr.mono (by decide)) hx hE (ad_cons (ed_var 2 (pv 2)) (ad_cons (ed_bin o_add (bd_var 1 (pv 1)) (bd_var 1 (pv 1))) ad_nil)))))))))))))))))))
theorem ok__law_are_two_right {f : Addr} {c__law_are_two_right Pt__law_are_two_right : Addr} (tb__law_are_two_right : LamX.TabB base mg c__law_are_two_right Pt__law_are_two_right) (inT__law_are_two_right : (Pt__law_are_two_right, ql__law_are_two_right) ∈ T) (one__law_are_two_right : ∀ p ∈ T, p.1 = Pt__law_are_two_right → p.2 = ql__law_are_two_right) (bt : Bt mg) (ct : Ct K mg) (hm : mg "_law_are_two_right" = some (.ref f)) (F : FunC K "_law_are_two_right" (top 43) f (.ref c__law_are_two_right)) (O__law_same : OkG P w K mg base T "_law_same" (top 30) 1 ["_law_told_here", "_law_due"] sp__law_same) (O__law_is_tile : OkD P w K mg base T "_law_is_tile" (top 37) 1 ["_law_thing"] sp__law_is_tile) (O__law_told : ∀ k, OkL P w K mg base T "_law_told" (top 41) k ["_law_call", "_law_told_here", "e"] "_law_call" sp__law_told) (O__law_do_fit : OkD P w K mg base T "_law_do_fit" (top 36) 3 ["_law_near", "_law_far"] sp__law_do_fit) (O__law_borders : OkD P w K mg base T "_law_borders" (top 33) 2 ["_law_rhomb"] sp__law_borders) (O__law_is_lefthand : OkD P w K mg base T "_law_is_lefthand" (top 34) 1 ["_law_j", "_law_beside", "_law_is_up"] sp__law_is_lefthand) (O_does_fit : OkD P w K mg base T "does_fit" (top 24) 8 ["one", "other"] sp_does_fit) (O_is_left : OkD P w K mg base T "is_left" (top 22) 7 ["tile", "edge"] sp_is_left) : OkG P w K mg base T "_law_are_two_right" (top 43) 11 ["_law_near", "_law_far", "_law_edge"] sp__law_are_two_right := by
  refine okGc (g := g__law_are_two_right) hm F sc__law_are_two_right len__law_are_two_right (fun A outer s H E W F R hG hr hE hp hx => ?_) law__law_are_two_right
  have nd := sc__law_are_two_right.nd
  have hu65 := hu65_of hr
  exact (sds_cons (sd_if (td_not (td_val (ed_o (B := ⟨⟨W, T⟩, F, H⟩) (k := 1) O__law_is_tile bp__law_is_tile (hr.mono (by decide)) hx hE (ad_cons (ed_var 0 (pv 0)) ad_nil)).toB)) (sds_one (sd_par2 (i := 4) (j := 5) rfl nd rfl rfl (by decide) rfl rfl (ad_cons (ed_tup (ad_cons ed_str (ad_cons (ed_var 0 (pv 0)) (ad_cons ed_bl ad_nil)))) (ad_cons (ed_tup (ad_cons ed_str (ad_cons (ed_var 0 (pv 0)) (ad_cons ed_bl ad_nil)))) ad_nil)) (by rfl))) (sds_cons (sd_set (i := 4) nd rfl (Or.inl rfl) (ed_if (td_val (ed_o (B := ⟨⟨W, T⟩, F, H⟩) (k := 1) O__law_is_tile bp__law_is_tile (hr.mono (by decide)) hx hE (ad_cons (ed_var 1 (pv 1)) ad_nil)).toB) (ed_tup (ad_cons ed_str (ad_cons (ed_o (B := ⟨⟨W, T⟩, F, H⟩) (k := 3) O__law_do_fit bp__law_do_fit (hr.mono (by decide)) hx hE (ad_cons (ed_var 0 (pv 0)) (ad_cons (ed_var 1 (pv 1)) ad_nil))) ad_nil))) (ed_tup (ad_cons ed_str (ad_cons (ed_var 1 (pv 1)) (ad_cons ed_bl ad_nil))))))
      (sds_cons (sd_setLc (i := 6) (own := [("_law_it", 7)]) rfl nd rfl rfl (sw_true rfl rfl rfl (by decide +kernel)) (pid_data (ed_o (B := ⟨⟨W, T⟩, F, H⟩) (k := 2) O__law_borders bp__law_borders (hr.mono (by decide)) hx hE (ad_cons (ed_var 0 (pv 0)) ad_nil))) (blkOk_by (own := [("_law_it", 7)]) (N := ["_law_near", "_law_far", "_law_edge", "_law_told_here", "_law_due", "_law_side", "_law_some", "_law_it"]) (sc := defScope (top 43)) (by decide +kernel)) (ct_name (by decide)) (fun _ _ _ _ _ => pg_name (i := 7) nd rfl (Or.inl rfl)) (fun _ _ _ _ _ => (tds_one (td_cmp (o_eq hr.units) (ed_callB (c_reprV ct.dig hG hu65) (by rfl) bt.b_repr nbRepr (abd_cons (ed_ix (ed_var 7 (pv 7)).toB ed_int.toB).toB abd_nil)).toB (ed_callB (c_reprV ct.dig hG hu65) (by rfl) bt.b_repr nbRepr (abd_cons (ed_var 2 (pv 2)).toB abd_nil)).toB (nomark _)))) (fun _ _ _ _ _ => (ed_var 7 (pv 7))))
      (sds_cons (sd_set (i := 5) nd rfl (Or.inl rfl) (ed_tup (ad_cons ed_str (ad_cons (ed_var 2 (pv 2)) (ad_cons ed_bl ad_nil)))))
      (sds_one (sd_if (td_cmp (o_ne hr.units) (ed_var 6 (pv 6)).toB (fd_lst ad_nil).toE.toB (nomark _)) (sds_one (sd_set (i := 5) nd rfl (Or.inl rfl) (ed_tup (ad_cons ed_str (ad_cons (ed_o (B := ⟨⟨W, T⟩, F, H⟩) (k := 1) O__law_is_lefthand bp__law_is_lefthand (hr.mono (by decide)) hx hE (ad_cons (ed_ix (ed_var 2 (pv 2)).toB ed_int.toB) (ad_cons (ed_ix (ed_ix (ed_var 6 (pv 6)).toB ed_int.toB).toB ed_int.toB) (ad_cons (ed_ix (ed_ix (ed_var 6 (pv 6)).toB ed_int.toB).toB ed_int.toB) ad_nil)))) ad_nil))))) sds_nil))))))
      (sds_cons (sd_setL (i := 3) nd rfl (Or.inl rfl) (fd_lst (ad_cons (ed_lam (B := ⟨⟨W, T⟩, F, H⟩) (fl := fun R => (gCall sp_does_fit W R (gCons (gVar 0) (gCons (gVar 1) gNil)))) (k := 8) (O__law_told _) bp__law_told tb__law_are_two_right rfl inT__law_are_two_right one__law_are_two_right (hr.mono (by decide)) (LamX.lamS_by (sc := defScope (top 43)) (by decide +kernel)) (fun A outer s H E f c' F' H' R hr hE hx => (ed_o (B := ⟨⟨W, T⟩, F', H'⟩) (k := 8) O_does_fit bp_does_fit (hr.mono (by decide)) hx hE (ad_cons (ed_var 0 (pv 0)) (ad_cons (ed_var 1 (pv 1)) ad_nil)))) rfl vis__law_told rfl (fun _ _ _ _ _ => rfl)) ad_nil)))
      (sds_cons (sd_appE (pv 3) (ed_lam (B := ⟨⟨W, T⟩, F, H⟩) (fl := fun R => (gCallK sp_does_fit 0 2 [1, 0] W R gNil (gCons (gVar 1) (gCons (gVar 0) gNil)))) (k := 8) (O__law_told _) bp__law_told tb__law_are_two_right rfl inT__law_are_two_right one__law_are_two_right (hr.mono (by decide)) (LamX.lamS_by (sc := defScope (top 43)) (by decide +kernel)) (fun A outer s H E f c' F' H' R hr hE hx => (ed_ok0 (B := ⟨⟨W, T⟩, F', H'⟩) (k := 8) O_does_fit (by decide) kb_does_fit_0 (hr.mono (by decide)) hx hE (kd_cons (ed_var 1 (pv 1)) (kd_cons (ed_var 0 (pv 0)) kd_nil)))) rfl vis__law_told rfl (fun _ _ _ _ _ => rfl)))
      (sds_cons (sd_appE (pv 3) (ed_lam (B := ⟨⟨W, T⟩, F, H⟩) (fl := fun R => (gCall sp_is_left W R (gCons (gVar 0) (gCons (gVar 2) gNil)))) (k := 8) (O__law_told _) bp__law_told tb__law_are_two_right rfl inT__law_are_two_right one__law_are_two_right (hr.mono (by decide)) (LamX.lamS_by (sc := defScope (top 43)) (by decide +kernel)) (fun A outer s H E f c' F' H' R hr hE hx => (ed_o (B := ⟨⟨W, T⟩, F', H'⟩) (k := 7) O_is_left bp_is_left (hr.mono (by decide)) hx hE (ad_cons (ed_var 0 (pv 0)) (ad_cons (ed_var 2 (pv 2)) ad_nil)))) rfl vis__law_told rfl (fun _ _ _ _ _ => rfl)))
      (sds_cons (sd_appE (pv 3) (ed_lam (B := ⟨⟨W, T⟩, F, H⟩) (fl := fun R => (gCallK sp_is_left 0 2 [1, 0] W R gNil (gCons (gVar 2) (gCons (gVar 0) gNil)))) (k := 8) (O__law_told _) bp__law_told tb__law_are_two_right rfl inT__law_are_two_right one__law_are_two_right (hr.mono (by decide)) (LamX.lamS_by (sc := defScope (top 43)) (by decide +kernel)) (fun A outer s H E f c' F' H' R hr hE hx => (ed_ok0 (B := ⟨⟨W, T⟩, F', H'⟩) (k := 7) O_is_left (by decide) kb_is_left_0 (hr.mono (by decide)) hx hE (kd_cons (ed_var 2 (pv 2)) (kd_cons (ed_var 0 (pv 0)) kd_nil)))) rfl vis__law_told rfl (fun _ _ _ _ _ => rfl)))
      (sds_one (sd_fz 3 (sd_ret (ed_g (B := ⟨⟨W, T⟩, F, H⟩) (k := 1) O__law_same bp__law_same hG (hr.mono (by decide)) hx hE (ad_cons (ed_var 3 (pv 3)) (ad_cons (fd_lst (ad_cons (ed_var 4 (pv 4)) (ad_cons (ed_var 4 (pv 4)) (ad_cons (ed_var 5 (pv 5)) (ad_cons (ed_var 5 (pv 5)) ad_nil))))).toE ad_nil)))))))))))
theorem ok_law {f fk : Addr} {fd fdk : FuncData} (bt : Bt mg) (ct : Ct K mg) (hmk : mg "_law_deck" = some (.ref fk)) (Fk : Fun K "_law_deck" "_law_deck" (top 26) fk fdk) (F : Fun K "law" "law" (top 45) f fd) (O__law_are_neighbours_right : OkG P w K mg base T "_law_are_neighbours_right" (top 44) 9 ["_law_rhomb"] sp__law_are_neighbours_right) (O__law_drawn : OkD P w K mg base T "_law_drawn" (top 32) 3 ["_law_deck_here"] sp__law_drawn) (O__law_pick : OkD P w K mg base T "_law_pick" (top 28) 2 ["_law_deck_here", "_law_some"] sp__law_pick) (O__law_draw : OkD P w K mg base T "_law_draw" (top 27) 1 ["_law_deck_here", "_law_many"] spDraw) (O__law_maybe : OkD P w K mg base T "_law_maybe" (top 40) 7 ["_law_deck_here", "_law_it"] sp__law_maybe) (O__law_same : OkG P w K mg base T "_law_same" (top 30) 1 ["_law_told_here", "_law_due"] sp__law_same) (O__law_borders : OkD P w K mg base T "_law_borders" (top 33) 2 ["_law_rhomb"] sp__law_borders) (O__law_is_alone_right : OkG P w K mg base T "_law_is_alone_right" (top 42) 10 ["_law_thing"] sp__law_is_alone_right) (O__law_are_two_right : OkG P w K mg base T "_law_are_two_right" (top 43) 11 ["_law_near", "_law_far", "_law_edge"] sp__law_are_two_right) : FnG P w K mg base 12 f fd ["_law_script"] (spLaw K T) := by
  refine okLaw (g := fun W => g_law W fun _ => False) F sc_law (by decide) rfl (fun cdv A outer s H E hG hr hp hx => ⟨ps_set (i := 1) sc_law.nd rfl (Or.inl rfl) (pe_call (ok__law_deck bt Fk) (hr.mono (by decide)) rfl hmk Fk.kp (Fk.binds bp__law_deck) .nil hx (pa_cons (pv 0) pa_nil)), fun p H0 => ?_⟩) law_law
  have nd := sc_law.nd
  have W : WD := some p
  have hE : FinE ⟨some p, T⟩ ⟨K, mg⟩ hp0 H0 (fun _ => False) E := fun er z => z.elim
  have hu65 := hu65_of hr
  exact (sds_cons (sd_for hp rfl (pid_rng1 (by rfl) bt.b_range (ad_cons ed_int ad_nil)) (gd_name (pg_name (i := 2) nd rfl (Or.inl rfl))) (sds_one (sd_if (td_not (td_val (ed_g (B := ⟨⟨some p, T⟩, hp0, H0⟩) (k := 9) O__law_are_neighbours_right bp__law_are_neighbours_right hG (hr.mono (by decide)) hx hE (ad_cons (ed_o (B := ⟨⟨some p, T⟩, hp0, H0⟩) (k := 3) O__law_drawn bp__law_drawn (hr.mono (by decide)) hx hE (ad_cons (ed_var 1 (pv 1)) ad_nil)) ad_nil)).toB)) (sds_one (sd_ret ed_bl)) sds_nil)))
      (sds_cons (sd_for hp rfl (pid_rng1 (by rfl) bt.b_range (ad_cons ed_int ad_nil)) (gd_name (pg_name (i := 2) nd rfl (Or.inl rfl))) (sds_cons (sd_par2 (i := 3) (j := 4) rfl nd rfl rfl (by decide) rfl rfl (ad_cons (ed_o (B := ⟨⟨some p, T⟩, hp0, H0⟩) (k := 3) O__law_drawn bp__law_drawn (hr.mono (by decide)) hx hE (ad_cons (ed_var 1 (pv 1)) ad_nil)) (ad_cons (ed_o (B := ⟨⟨some p, T⟩, hp0, H0⟩) (k := 3) O__law_drawn bp__law_drawn (hr.mono (by decide)) hx hE (ad_cons (ed_var 1 (pv 1)) ad_nil)) ad_nil)) (by rfl))
      (sds_cons (sd_set (i := 5) nd rfl (Or.inl rfl) (ed_ix (ed_o (B := ⟨⟨some p, T⟩, hp0, H0⟩) (k := 2) O__law_pick bp__law_pick (hr.mono (by decide)) hx hE (ad_cons (ed_var 1 (pv 1)) (ad_cons (ed_o (B := ⟨⟨some p, T⟩, hp0, H0⟩) (k := 2) O__law_borders bp__law_borders (hr.mono (by decide)) hx hE (ad_cons (ed_var 3 (pv 3)) ad_nil)) ad_nil))).toB ed_int.toB))
      (sds_cons (sd_if (td_cmp (o_eq hr.units) (ed_o (B := ⟨⟨some p, T⟩, hp0, H0⟩) (k := 1) O__law_draw bp__law_draw (hr.mono (by decide)) hx hE (ad_cons (ed_var 1 (pv 1)) (ad_cons ed_int ad_nil))).toB ed_int.toB (nomark _)) (sds_one (sd_set (i := 5) nd rfl (Or.inl rfl) (ed_ix (ed_o (B := ⟨⟨some p, T⟩, hp0, H0⟩) (k := 2) O__law_pick bp__law_pick (hr.mono (by decide)) hx hE (ad_cons (ed_var 1 (pv 1)) (ad_cons (ed_o (B := ⟨⟨some p, T⟩, hp0, H0⟩) (k := 2) O__law_borders bp__law_borders (hr.mono (by decide)) hx hE (ad_cons (ed_var 4 (pv 4)) ad_nil)) ad_nil))).toB ed_int.toB))) sds_nil)
      (sds_cons (sd_par3 (i := 3) (j := 4) (l := 5) rfl nd rfl rfl rfl (by decide) (by decide) (by decide) rfl rfl rfl (ad_cons (ed_o (B := ⟨⟨some p, T⟩, hp0, H0⟩) (k := 7) O__law_maybe bp__law_maybe (hr.mono (by decide)) hx hE (ad_cons (ed_var 1 (pv 1)) (ad_cons (ed_var 3 (pv 3)) ad_nil))) (ad_cons (ed_o (B := ⟨⟨some p, T⟩, hp0, H0⟩) (k := 7) O__law_maybe bp__law_maybe (hr.mono (by decide)) hx hE (ad_cons (ed_var 1 (pv 1)) (ad_cons (ed_var 4 (pv 4)) ad_nil))) (ad_cons (ed_o (B := ⟨⟨some p, T⟩, hp0, H0⟩) (k := 7) O__law_maybe bp__law_maybe (hr.mono (by decide)) hx hE (ad_cons (ed_var 1 (pv 1)) (ad_cons (ed_var 5 (pv 5)) ad_nil))) ad_nil))) (by rfl))
      (sds_cons (sd_set (i := 6) nd rfl (Or.inl rfl) (ed_callB (c_reprB ct.dig hG hu65) (by rfl) bt.b_repr nbRepr (abd_cons (ed_tup (ad_cons (ed_var 3 (pv 3)) (ad_cons (ed_var 4 (pv 4)) (ad_cons (ed_var 5 (pv 5)) ad_nil)))).toB abd_nil)))
      (sds_cons (sd_if (wd_or (td_not (td_val (ed_g (B := ⟨⟨some p, T⟩, hp0, H0⟩) (k := 10) O__law_is_alone_right bp__law_is_alone_right hG (hr.mono (by decide)) hx hE (ad_cons (ed_var 3 (pv 3)) ad_nil)).toB)) (wd_or1 (td_not (td_val (ed_g (B := ⟨⟨some p, T⟩, hp0, H0⟩) (k := 11) O__law_are_two_right bp__law_are_two_right hG (hr.mono (by decide)) hx hE (ad_cons (ed_var 3 (pv 3)) (ad_cons (ed_var 4 (pv 4)) (ad_cons (ed_var 5 (pv 5)) ad_nil)))).toB)))).t (sds_one (sd_ret ed_bl)) sds_nil)
      (sds_one (sd_if (td_not (td_val (ed_g (B := ⟨⟨some p, T⟩, hp0, H0⟩) (k := 1) O__law_same bp__law_same hG (hr.mono (by decide)) hx hE (ad_cons (ed_callB (c_reprB ct.dig hG hu65) (by rfl) bt.b_repr nbRepr (abd_cons (ed_tup (ad_cons (ed_var 3 (pv 3)) (ad_cons (ed_var 4 (pv 4)) (ad_cons (ed_var 5 (pv 5)) ad_nil)))).toB abd_nil)) (ad_cons (ed_var 6 (pv 6)) ad_nil))).toB)) (sds_one (sd_ret ed_bl)) sds_nil)))))))))
      (sds_one (sd_ret ed_bl))))
end
theorem all_ok {l : PySem.W.OpenLaw} {w : World} {K : PySem.W.Frag} {h : Heap} {mg : Str → Option Value} {fa : Addr} (X : K.In h) (G : h.Ns mainGlobals mg) (hfa : mg "law" = some (.ref fa))
    {f6 f8 f9 f10 f11 f12 f14 f15 f16 f17 f18 f19 f20 f21 f22 f23 f24 f26 f27 f28 f29 f30 f31 f32 f33 f34 f35 f36 f37 f38 f39 f40 f41 f42 f43 f44 f45 C_BadCorner C_BadEdge C_BadTile C_FloorError fI_BadEdge fI_BadTile cc42 Pt42 cc43 Pt43 : Addr} {od6 an6 od8 an8 od9 an9 od10 an10 od11 an11 od12 an12 od14 an14 od15 an15 od16 an16 od17 an17 od18 an18 od19 an19 od20 an20 od21 an21 od22 an22 od23 an23 od24 an24 od26 an26 od27 an27 od28 an28 od29 an29 od30 an30 od31 an31 od32 an32 od33 an33 od34 an34 od35 an35 od36 an36 od37 an37 od38 an38 od39 an39 od40 an40 od41 an41 od42 an42 od43 an43 od44 an44 od45 an45 od_BadEdge an_BadEdge od_BadTile an_BadTile : Option Addr} {sl6 sl8 sl9 sl10 sl11 sl12 sl14 sl15 sl16 sl17 sl18 sl19 sl20 sl21 sl22 sl23 sl24 sl26 sl27 sl28 sl29 sl30 sl31 sl32 sl33 sl34 sl35 sl36 sl37 sl38 sl39 sl40 sl41 sl42 sl43 sl44 sl45 sl_BadEdge sl_BadTile ts42 ts43 : Array (Option Value)} {tv42 tv43 : Array Value} {td42 td43 : Option Addr} {tc42 tc43 : Value} {oc6 kV6 dc6 pm6 cd6 ct6 oc8 kV8 dc8 pm8 cd8 ct8 oc9 kV9 dc9 pm9 cd9 ct9 oc10 kV10 dc10 pm10 cd10 ct10 oc11 kV11 dc11 pm11 cd11 ct11 oc12 kV12 dc12 pm12 cd12 ct12 oc14 kV14 dc14 pm14 cd14 ct14 oc15 kV15 dc15 pm15 cd15 ct15 oc16 kV16 dc16 pm16 cd16 ct16 oc17 kV17 dc17 pm17 cd17 ct17 oc18 kV18 dc18 pm18 cd18 ct18 oc19 kV19 dc19 pm19 cd19 ct19 oc20 kV20 dc20 pm20 cd20 ct20 oc21 kV21 dc21 pm21 cd21 ct21 oc22 kV22 dc22 pm22 cd22 ct22 oc23 kV23 dc23 pm23 cd23 ct23 oc24 kV24 dc24 pm24 cd24 ct24 oc26 kV26 dc26 pm26 cd26 ct26 oc27 kV27 dc27 pm27 cd27 ct27 oc28 kV28 dc28 pm28 cd28 ct28 oc29 kV29 dc29 pm29 cd29 ct29 oc30 kV30 dc30 pm30 cd30 ct30 oc31 kV31 dc31 pm31 cd31 ct31 oc32 kV32 dc32 pm32 cd32 ct32 oc33 kV33 dc33 pm33 cd33 ct33 oc34 kV34 dc34 pm34 cd34 ct34 oc35 kV35 dc35 pm35 cd35 ct35 oc36 kV36 dc36 pm36 cd36 ct36 oc37 kV37 dc37 pm37 cd37 ct37 oc38 kV38 dc38 pm38 cd38 ct38 oc39 kV39 dc39 pm39 cd39 ct39 oc40 kV40 dc40 pm40 cd40 ct40 oc41 kV41 dc41 pm41 cd41 ct41 oc42 kV42 dc42 pm42  ct42 oc43 kV43 dc43 pm43  ct43 oc44 kV44 dc44 pm44 cd44 ct44 oc45 kV45 dc45 pm45 cd45 ct45 oc_BadEdge kV_BadEdge dc_BadEdge pm_BadEdge cd_BadEdge ct_BadEdge oc_BadTile kV_BadTile dc_BadTile pm_BadTile cd_BadTile ct_BadTile : Value}
    (a6 : PySem.W.nsIn K mainGlobals "is_integer" = some (some (.ref f6))) (l6 : K.lookup f6 = some ⟨oc6, od6, .func (PySem.W.fnOf "is_integer" "is_integer" (defArgs (top 6)) (defBody (top 6)) (defScope (top 6)) .none kV6 dc6 pm6 an6 cd6 ct6), sl6⟩) (c6 : PySem.W.codeIn K cd6 "is_integer" = true) (k6 : PySem.W.keepIn K (.ref f6) = true) (a8 : PySem.W.nsIn K mainGlobals "is_direction" = some (some (.ref f8))) (l8 : K.lookup f8 = some ⟨oc8, od8, .func (PySem.W.fnOf "is_direction" "is_direction" (defArgs (top 8)) (defBody (top 8)) (defScope (top 8)) .none kV8 dc8 pm8 an8 cd8 ct8), sl8⟩) (c8 : PySem.W.codeIn K cd8 "is_direction" = true) (k8 : PySem.W.keepIn K (.ref f8) = true) (a9 : PySem.W.nsIn K mainGlobals "is_five" = some (some (.ref f9))) (l9 : K.lookup f9 = some ⟨oc9, od9, .func (PySem.W.fnOf "is_five" "is_five" (defArgs (top 9)) (defBody (top 9)) (defScope (top 9)) .none kV9 dc9 pm9 an9 cd9 ct9), sl9⟩) (c9 : PySem.W.codeIn K cd9 "is_five" = true) (k9 : PySem.W.keepIn K (.ref f9) = true) (a10 : PySem.W.nsIn K mainGlobals "is_corner_five" = some (some (.ref f10))) (l10 : K.lookup f10 = some ⟨oc10, od10, .func (PySem.W.fnOf "is_corner_five" "is_corner_five" (defArgs (top 10)) (defBody (top 10)) (defScope (top 10)) .none kV10 dc10 pm10 an10 cd10 ct10), sl10⟩) (c10 : PySem.W.codeIn K cd10 "is_corner_five" = true) (k10 : PySem.W.keepIn K (.ref f10) = true) (a11 : PySem.W.nsIn K mainGlobals "raised" = some (some (.ref f11))) (l11 : K.lookup f11 = some ⟨oc11, od11, .func (PySem.W.fnOf "raised" "raised" (defArgs (top 11)) (defBody (top 11)) (defScope (top 11)) .none kV11 dc11 pm11 an11 cd11 ct11), sl11⟩) (c11 : PySem.W.codeIn K cd11 "raised" = true) (k11 : PySem.W.keepIn K (.ref f11) = true) (a12 : PySem.W.nsIn K mainGlobals "are_near" = some (some (.ref f12))) (l12 : K.lookup f12 = some ⟨oc12, od12, .func (PySem.W.fnOf "are_near" "are_near" (defArgs (top 12)) (defBody (top 12)) (defScope (top 12)) .none kV12 dc12 pm12 an12 cd12 ct12), sl12⟩) (c12 : PySem.W.codeIn K cd12 "are_near" = true) (k12 : PySem.W.keepIn K (.ref f12) = true) (a14 : PySem.W.nsIn K mainGlobals "is_tile_row" = some (some (.ref f14))) (l14 : K.lookup f14 = some ⟨oc14, od14, .func (PySem.W.fnOf "is_tile_row" "is_tile_row" (defArgs (top 14)) (defBody (top 14)) (defScope (top 14)) .none kV14 dc14 pm14 an14 cd14 ct14), sl14⟩) (c14 : PySem.W.codeIn K cd14 "is_tile_row" = true) (k14 : PySem.W.keepIn K (.ref f14) = true) (a15 : PySem.W.nsIn K mainGlobals "need_tile" = some (some (.ref f15))) (l15 : K.lookup f15 = some ⟨oc15, od15, .func (PySem.W.fnOf "need_tile" "need_tile" (defArgs (top 15)) (defBody (top 15)) (defScope (top 15)) .none kV15 dc15 pm15 an15 cd15 ct15), sl15⟩) (c15 : PySem.W.codeIn K cd15 "need_tile" = true) (k15 : PySem.W.keepIn K (.ref f15) = true) (a16 : PySem.W.nsIn K mainGlobals "corners_of" = some (some (.ref f16))) (l16 : K.lookup f16 = some ⟨oc16, od16, .func (PySem.W.fnOf "corners_of" "corners_of" (defArgs (top 16)) (defBody (top 16)) (defScope (top 16)) .none kV16 dc16 pm16 an16 cd16 ct16), sl16⟩) (c16 : PySem.W.codeIn K cd16 "corners_of" = true) (k16 : PySem.W.keepIn K (.ref f16) = true) (a17 : PySem.W.nsIn K mainGlobals "edges_of" = some (some (.ref f17))) (l17 : K.lookup f17 = some ⟨oc17, od17, .func (PySem.W.fnOf "edges_of" "edges_of" (defArgs (top 17)) (defBody (top 17)) (defScope (top 17)) .none kV17 dc17 pm17 an17 cd17 ct17), sl17⟩) (c17 : PySem.W.codeIn K cd17 "edges_of" = true) (k17 : PySem.W.keepIn K (.ref f17) = true) (a18 : PySem.W.nsIn K mainGlobals "is_thick" = some (some (.ref f18))) (l18 : K.lookup f18 = some ⟨oc18, od18, .func (PySem.W.fnOf "is_thick" "is_thick" (defArgs (top 18)) (defBody (top 18)) (defScope (top 18)) .none kV18 dc18 pm18 an18 cd18 ct18), sl18⟩) (c18 : PySem.W.codeIn K cd18 "is_thick" = true) (k18 : PySem.W.keepIn K (.ref f18) = true) (a19 : PySem.W.nsIn K mainGlobals "is_low" = some (some (.ref f19))) (l19 : K.lookup f19 = some ⟨oc19, od19, .func (PySem.W.fnOf "is_low" "is_low" (defArgs (top 19)) (defBody (top 19)) (defScope (top 19)) .none kV19 dc19 pm19 an19 cd19 ct19), sl19⟩) (c19 : PySem.W.codeIn K cd19 "is_low" = true) (k19 : PySem.W.keepIn K (.ref f19) = true) (a20 : PySem.W.nsIn K mainGlobals "marks_of" = some (some (.ref f20))) (l20 : K.lookup f20 = some ⟨oc20, od20, .func (PySem.W.fnOf "marks_of" "marks_of" (defArgs (top 20)) (defBody (top 20)) (defScope (top 20)) .none kV20 dc20 pm20 an20 cd20 ct20), sl20⟩) (c20 : PySem.W.codeIn K cd20 "marks_of" = true) (k20 : PySem.W.keepIn K (.ref f20) = true) (a21 : PySem.W.nsIn K mainGlobals "lies_left" = some (some (.ref f21))) (l21 : K.lookup f21 = some ⟨oc21, od21, .func (PySem.W.fnOf "lies_left" "lies_left" (defArgs (top 21)) (defBody (top 21)) (defScope (top 21)) .none kV21 dc21 pm21 an21 cd21 ct21), sl21⟩) (c21 : PySem.W.codeIn K cd21 "lies_left" = true) (k21 : PySem.W.keepIn K (.ref f21) = true) (a22 : PySem.W.nsIn K mainGlobals "is_left" = some (some (.ref f22))) (l22 : K.lookup f22 = some ⟨oc22, od22, .func (PySem.W.fnOf "is_left" "is_left" (defArgs (top 22)) (defBody (top 22)) (defScope (top 22)) .none kV22 dc22 pm22 an22 cd22 ct22), sl22⟩) (c22 : PySem.W.codeIn K cd22 "is_left" = true) (k22 : PySem.W.keepIn K (.ref f22) = true) (a23 : PySem.W.nsIn K mainGlobals "is_edge_row" = some (some (.ref f23))) (l23 : K.lookup f23 = some ⟨oc23, od23, .func (PySem.W.fnOf "is_edge_row" "is_edge_row" (defArgs (top 23)) (defBody (top 23)) (defScope (top 23)) .none kV23 dc23 pm23 an23 cd23 ct23), sl23⟩) (c23 : PySem.W.codeIn K cd23 "is_edge_row" = true) (k23 : PySem.W.keepIn K (.ref f23) = true) (a24 : PySem.W.nsIn K mainGlobals "does_fit" = some (some (.ref f24))) (l24 : K.lookup f24 = some ⟨oc24, od24, .func (PySem.W.fnOf "does_fit" "does_fit" (defArgs (top 24)) (defBody (top 24)) (defScope (top 24)) .none kV24 dc24 pm24 an24 cd24 ct24), sl24⟩) (c24 : PySem.W.codeIn K cd24 "does_fit" = true) (k24 : PySem.W.keepIn K (.ref f24) = true) (a26 : PySem.W.nsIn K mainGlobals "_law_deck" = some (some (.ref f26))) (l26 : K.lookup f26 = some ⟨oc26, od26, .func (PySem.W.fnOf "_law_deck" "_law_deck" (defArgs (top 26)) (defBody (top 26)) (defScope (top 26)) .none kV26 dc26 pm26 an26 cd26 ct26), sl26⟩) (c26 : PySem.W.codeIn K cd26 "_law_deck" = true) (k26 : PySem.W.keepIn K (.ref f26) = true) (a27 : PySem.W.nsIn K mainGlobals "_law_draw" = some (some (.ref f27))) (l27 : K.lookup f27 = some ⟨oc27, od27, .func (PySem.W.fnOf "_law_draw" "_law_draw" (defArgs (top 27)) (defBody (top 27)) (defScope (top 27)) .none kV27 dc27 pm27 an27 cd27 ct27), sl27⟩) (c27 : PySem.W.codeIn K cd27 "_law_draw" = true) (k27 : PySem.W.keepIn K (.ref f27) = true) (a28 : PySem.W.nsIn K mainGlobals "_law_pick" = some (some (.ref f28))) (l28 : K.lookup f28 = some ⟨oc28, od28, .func (PySem.W.fnOf "_law_pick" "_law_pick" (defArgs (top 28)) (defBody (top 28)) (defScope (top 28)) .none kV28 dc28 pm28 an28 cd28 ct28), sl28⟩) (c28 : PySem.W.codeIn K cd28 "_law_pick" = true) (k28 : PySem.W.keepIn K (.ref f28) = true) (a29 : PySem.W.nsIn K mainGlobals "_law_integer" = some (some (.ref f29))) (l29 : K.lookup f29 = some ⟨oc29, od29, .func (PySem.W.fnOf "_law_integer" "_law_integer" (defArgs (top 29)) (defBody (top 29)) (defScope (top 29)) .none kV29 dc29 pm29 an29 cd29 ct29), sl29⟩) (c29 : PySem.W.codeIn K cd29 "_law_integer" = true) (k29 : PySem.W.keepIn K (.ref f29) = true) (a30 : PySem.W.nsIn K mainGlobals "_law_same" = some (some (.ref f30))) (l30 : K.lookup f30 = some ⟨oc30, od30, .func (PySem.W.fnOf "_law_same" "_law_same" (defArgs (top 30)) (defBody (top 30)) (defScope (top 30)) .none kV30 dc30 pm30 an30 cd30 ct30), sl30⟩) (c30 : PySem.W.codeIn K cd30 "_law_same" = true) (k30 : PySem.W.keepIn K (.ref f30) = true) (a31 : PySem.W.nsIn K mainGlobals "_law_step" = some (some (.ref f31))) (l31 : K.lookup f31 = some ⟨oc31, od31, .func (PySem.W.fnOf "_law_step" "_law_step" (defArgs (top 31)) (defBody (top 31)) (defScope (top 31)) .none kV31 dc31 pm31 an31 cd31 ct31), sl31⟩) (c31 : PySem.W.codeIn K cd31 "_law_step" = true) (k31 : PySem.W.keepIn K (.ref f31) = true) (a32 : PySem.W.nsIn K mainGlobals "_law_drawn" = some (some (.ref f32))) (l32 : K.lookup f32 = some ⟨oc32, od32, .func (PySem.W.fnOf "_law_drawn" "_law_drawn" (defArgs (top 32)) (defBody (top 32)) (defScope (top 32)) .none kV32 dc32 pm32 an32 cd32 ct32), sl32⟩) (c32 : PySem.W.codeIn K cd32 "_law_drawn" = true) (k32 : PySem.W.keepIn K (.ref f32) = true) (a33 : PySem.W.nsIn K mainGlobals "_law_borders" = some (some (.ref f33))) (l33 : K.lookup f33 = some ⟨oc33, od33, .func (PySem.W.fnOf "_law_borders" "_law_borders" (defArgs (top 33)) (defBody (top 33)) (defScope (top 33)) .none kV33 dc33 pm33 an33 cd33 ct33), sl33⟩) (c33 : PySem.W.codeIn K cd33 "_law_borders" = true) (k33 : PySem.W.keepIn K (.ref f33) = true) (a34 : PySem.W.nsIn K mainGlobals "_law_is_lefthand" = some (some (.ref f34))) (l34 : K.lookup f34 = some ⟨oc34, od34, .func (PySem.W.fnOf "_law_is_lefthand" "_law_is_lefthand" (defArgs (top 34)) (defBody (top 34)) (defScope (top 34)) .none kV34 dc34 pm34 an34 cd34 ct34), sl34⟩) (c34 : PySem.W.codeIn K cd34 "_law_is_lefthand" = true) (k34 : PySem.W.keepIn K (.ref f34) = true) (a35 : PySem.W.nsIn K mainGlobals "_law_mark" = some (some (.ref f35))) (l35 : K.lookup f35 = some ⟨oc35, od35, .func (PySem.W.fnOf "_law_mark" "_law_mark" (defArgs (top 35)) (defBody (top 35)) (defScope (top 35)) .none kV35 dc35 pm35 an35 cd35 ct35), sl35⟩) (c35 : PySem.W.codeIn K cd35 "_law_mark" = true) (k35 : PySem.W.keepIn K (.ref f35) = true) (a36 : PySem.W.nsIn K mainGlobals "_law_do_fit" = some (some (.ref f36))) (l36 : K.lookup f36 = some ⟨oc36, od36, .func (PySem.W.fnOf "_law_do_fit" "_law_do_fit" (defArgs (top 36)) (defBody (top 36)) (defScope (top 36)) .none kV36 dc36 pm36 an36 cd36 ct36), sl36⟩) (c36 : PySem.W.codeIn K cd36 "_law_do_fit" = true) (k36 : PySem.W.keepIn K (.ref f36) = true) (a37 : PySem.W.nsIn K mainGlobals "_law_is_tile" = some (some (.ref f37))) (l37 : K.lookup f37 = some ⟨oc37, od37, .func (PySem.W.fnOf "_law_is_tile" "_law_is_tile" (defArgs (top 37)) (defBody (top 37)) (defScope (top 37)) .none kV37 dc37 pm37 an37 cd37 ct37), sl37⟩) (c37 : PySem.W.codeIn K cd37 "_law_is_tile" = true) (k37 : PySem.W.keepIn K (.ref f37) = true) (a38 : PySem.W.nsIn K mainGlobals "_law_odd" = some (some (.ref f38))) (l38 : K.lookup f38 = some ⟨oc38, od38, .func (PySem.W.fnOf "_law_odd" "_law_odd" (defArgs (top 38)) (defBody (top 38)) (defScope (top 38)) .none kV38 dc38 pm38 an38 cd38 ct38), sl38⟩) (c38 : PySem.W.codeIn K cd38 "_law_odd" = true) (k38 : PySem.W.keepIn K (.ref f38) = true) (a39 : PySem.W.nsIn K mainGlobals "_law_bent" = some (some (.ref f39))) (l39 : K.lookup f39 = some ⟨oc39, od39, .func (PySem.W.fnOf "_law_bent" "_law_bent" (defArgs (top 39)) (defBody (top 39)) (defScope (top 39)) .none kV39 dc39 pm39 an39 cd39 ct39), sl39⟩) (c39 : PySem.W.codeIn K cd39 "_law_bent" = true) (k39 : PySem.W.keepIn K (.ref f39) = true) (a40 : PySem.W.nsIn K mainGlobals "_law_maybe" = some (some (.ref f40))) (l40 : K.lookup f40 = some ⟨oc40, od40, .func (PySem.W.fnOf "_law_maybe" "_law_maybe" (defArgs (top 40)) (defBody (top 40)) (defScope (top 40)) .none kV40 dc40 pm40 an40 cd40 ct40), sl40⟩) (c40 : PySem.W.codeIn K cd40 "_law_maybe" = true) (k40 : PySem.W.keepIn K (.ref f40) = true) (a41 : PySem.W.nsIn K mainGlobals "_law_told" = some (some (.ref f41))) (l41 : K.lookup f41 = some ⟨oc41, od41, .func (PySem.W.fnOf "_law_told" "_law_told" (defArgs (top 41)) (defBody (top 41)) (defScope (top 41)) .none kV41 dc41 pm41 an41 cd41 ct41), sl41⟩) (c41 : PySem.W.codeIn K cd41 "_law_told" = true) (k41 : PySem.W.keepIn K (.ref f41) = true) (a42 : PySem.W.nsIn K mainGlobals "_law_is_alone_right" = some (some (.ref f42))) (l42 : K.lookup f42 = some ⟨oc42, od42, .func (PySem.W.fnOf "_law_is_alone_right" "_law_is_alone_right" (defArgs (top 42)) (defBody (top 42)) (defScope (top 42)) .none kV42 dc42 pm42 an42 (.ref cc42) ct42), sl42⟩) (c42 : PySem.W.codeIn K (.ref cc42) "_law_is_alone_right" = true) (k42 : PySem.W.keepIn K (.ref f42) = true) (a43 : PySem.W.nsIn K mainGlobals "_law_are_two_right" = some (some (.ref f43))) (l43 : K.lookup f43 = some ⟨oc43, od43, .func (PySem.W.fnOf "_law_are_two_right" "_law_are_two_right" (defArgs (top 43)) (defBody (top 43)) (defScope (top 43)) .none kV43 dc43 pm43 an43 (.ref cc43) ct43), sl43⟩) (c43 : PySem.W.codeIn K (.ref cc43) "_law_are_two_right" = true) (k43 : PySem.W.keepIn K (.ref f43) = true) (a44 : PySem.W.nsIn K mainGlobals "_law_are_neighbours_right" = some (some (.ref f44))) (l44 : K.lookup f44 = some ⟨oc44, od44, .func (PySem.W.fnOf "_law_are_neighbours_right" "_law_are_neighbours_right" (defArgs (top 44)) (defBody (top 44)) (defScope (top 44)) .none kV44 dc44 pm44 an44 cd44 ct44), sl44⟩) (c44 : PySem.W.codeIn K cd44 "_law_are_neighbours_right" = true) (k44 : PySem.W.keepIn K (.ref f44) = true) (a45 : PySem.W.nsIn K mainGlobals "law" = some (some (.ref f45))) (l45 : K.lookup f45 = some ⟨oc45, od45, .func (PySem.W.fnOf "law" "law" (defArgs (top 45)) (defBody (top 45)) (defScope (top 45)) .none kV45 dc45 pm45 an45 cd45 ct45), sl45⟩) (c45 : PySem.W.codeIn K cd45 "law" = true) (k45 : PySem.W.keepIn K (.ref f45) = true)
    (z_all : PySem.W.nsIn K mainGlobals "all" = some none) (z_bool : PySem.W.nsIn K mainGlobals "bool" = some none) (z_int : PySem.W.nsIn K mainGlobals "int" = some none) (z_isinstance : PySem.W.nsIn K mainGlobals "isinstance" = some none) (z_len : PySem.W.nsIn K mainGlobals "len" = some none) (z_list : PySem.W.nsIn K mainGlobals "list" = some none) (z_max : PySem.W.nsIn K mainGlobals "max" = some none) (z_min : PySem.W.nsIn K mainGlobals "min" = some none) (z_range : PySem.W.nsIn K mainGlobals "range" = some none) (z_repr : PySem.W.nsIn K mainGlobals "repr" = some none) (z_str : PySem.W.nsIn K mainGlobals "str" = some none) (z_sum : PySem.W.nsIn K mainGlobals "sum" = some none) (z_tuple : PySem.W.nsIn K mainGlobals "tuple" = some none) (e1_BadCorner : PySem.W.nsIn K mainGlobals "BadCorner" = some (some (.ref C_BadCorner))) (e4_BadCorner : PySem.W.subIn K (.ref C_BadCorner) (.type "BaseException") = some true) (e5_BadCorner : PySem.W.typeIn K (.ref C_BadCorner) = some (.type "type")) (e1_BadEdge : PySem.W.nsIn K mainGlobals "BadEdge" = some (some (.ref C_BadEdge))) (e4_BadEdge : PySem.W.subIn K (.ref C_BadEdge) (.type "BaseException") = some true) (e5_BadEdge : PySem.W.typeIn K (.ref C_BadEdge) = some (.type "type")) (q1_BadEdge : (PySem.W.clsIn K C_BadEdge).isSome = true) (x1_BadEdge : PySem.W.excInitIn K C_BadEdge exT "Exception.__new__" = true) (x2_BadEdge : PySem.W.excOver K C_BadEdge exT = true) (x3_BadEdge : PySem.W.takerIn K C_BadEdge "thing" = some none) (x4_BadEdge : PySem.W.findIn K (.ref C_BadEdge) "thing" = some none) (x5_BadEdge : PySem.W.findIn K (.ref C_BadEdge) "__setattr__" = some (some (.builtin "object.__setattr__"))) (x6_BadEdge : PySem.W.findIn K (.ref C_BadEdge) "__init__" = some (some (.ref fI_BadEdge))) (x7_BadEdge : PySem.W.typeIn K (.ref fI_BadEdge) = some (.type "function")) (e3_BadEdge : PySem.W.keepIn K (.ref C_BadEdge) = true) (x9_BadEdge : PySem.W.hasDictIn K C_BadEdge = true) (y1_BadEdge : K.lookup fI_BadEdge = some ⟨oc_BadEdge, od_BadEdge, .func (PySem.W.fnOf "__init__" "BadEdge.__init__" (defArgs (initS 4)) (defBody (initS 4)) (defScope (initS 4)) .none kV_BadEdge dc_BadEdge pm_BadEdge an_BadEdge cd_BadEdge ct_BadEdge), sl_BadEdge⟩) (y2_BadEdge : PySem.W.codeIn K cd_BadEdge "BadEdge.__init__" = true) (y3_BadEdge : PySem.W.keepIn K (.ref fI_BadEdge) = true) (g1_BadEdge : PySem.W.findIn K (.ref C_BadEdge) "__getattribute__" = some (some (.builtin "BaseException.__getattribute__"))) (g2_BadEdge : PySem.W.findIn K (.ref C_BadEdge) "__getattr__" = some none) (g3_BadEdge : PySem.W.findIn K (.ref C_BadEdge) "__class__" = some (some (.builtin "object.__class__"))) (g4_BadEdge : PySem.W.mroIn K C_BadEdge (.type "object") = some true) (e1_BadTile : PySem.W.nsIn K mainGlobals "BadTile" = some (some (.ref C_BadTile))) (e4_BadTile : PySem.W.subIn K (.ref C_BadTile) (.type "BaseException") = some true) (e5_BadTile : PySem.W.typeIn K (.ref C_BadTile) = some (.type "type")) (q1_BadTile : (PySem.W.clsIn K C_BadTile).isSome = true) (x1_BadTile : PySem.W.excInitIn K C_BadTile exT "Exception.__new__" = true) (x2_BadTile : PySem.W.excOver K C_BadTile exT = true) (x3_BadTile : PySem.W.takerIn K C_BadTile "thing" = some none) (x4_BadTile : PySem.W.findIn K (.ref C_BadTile) "thing" = some none) (x5_BadTile : PySem.W.findIn K (.ref C_BadTile) "__setattr__" = some (some (.builtin "object.__setattr__"))) (x6_BadTile : PySem.W.findIn K (.ref C_BadTile) "__init__" = some (some (.ref fI_BadTile))) (x7_BadTile : PySem.W.typeIn K (.ref fI_BadTile) = some (.type "function")) (e3_BadTile : PySem.W.keepIn K (.ref C_BadTile) = true) (x9_BadTile : PySem.W.hasDictIn K C_BadTile = true) (y1_BadTile : K.lookup fI_BadTile = some ⟨oc_BadTile, od_BadTile, .func (PySem.W.fnOf "__init__" "BadTile.__init__" (defArgs (initS 3)) (defBody (initS 3)) (defScope (initS 3)) .none kV_BadTile dc_BadTile pm_BadTile an_BadTile cd_BadTile ct_BadTile), sl_BadTile⟩) (y2_BadTile : PySem.W.codeIn K cd_BadTile "BadTile.__init__" = true) (y3_BadTile : PySem.W.keepIn K (.ref fI_BadTile) = true) (g1_BadTile : PySem.W.findIn K (.ref C_BadTile) "__getattribute__" = some (some (.builtin "BaseException.__getattribute__"))) (g2_BadTile : PySem.W.findIn K (.ref C_BadTile) "__getattr__" = some none) (g3_BadTile : PySem.W.findIn K (.ref C_BadTile) "__class__" = some (some (.builtin "object.__class__"))) (g4_BadTile : PySem.W.mroIn K C_BadTile (.type "object") = some true) (e1_FloorError : PySem.W.nsIn K mainGlobals "FloorError" = some (some (.ref C_FloorError))) (e4_FloorError : PySem.W.subIn K (.ref C_FloorError) (.type "BaseException") = some true) (e5_FloorError : PySem.W.typeIn K (.ref C_FloorError) = some (.type "type")) (q1_FloorError : (PySem.W.clsIn K C_FloorError).isSome = true) (gn : PySem.W.specialIn K (.builtin "object.__class__") "__get__" = some (some (.builtin "getset_descriptor.__get__"))) (gt : PySem.W.takesIn K (.builtin "object.__class__") = some true) (r_BadEdge_BadEdge : PySem.W.subIn K (.ref C_BadEdge) (.ref C_BadEdge) = some true) (r_BadEdge_BadTile : PySem.W.subIn K (.ref C_BadEdge) (.ref C_BadTile) = some false) (r_BadEdge_FloorError : PySem.W.subIn K (.ref C_BadEdge) (.ref C_FloorError) = some true) (r_BadTile_BadEdge : PySem.W.subIn K (.ref C_BadTile) (.ref C_BadEdge) = some false) (r_BadTile_BadTile : PySem.W.subIn K (.ref C_BadTile) (.ref C_BadTile) = some true) (r_BadTile_FloorError : PySem.W.subIn K (.ref C_BadTile) (.ref C_FloorError) = some true) (s_BadEdge_BadCorner : PySem.W.kitOne K (.ref C_BadEdge) (.ref C_BadCorner) = some false) (s_BadEdge_BadEdge : PySem.W.kitOne K (.ref C_BadEdge) (.ref C_BadEdge) = some true) (s_BadEdge_BadTile : PySem.W.kitOne K (.ref C_BadEdge) (.ref C_BadTile) = some false) (s_BadEdge_FloorError : PySem.W.kitOne K (.ref C_BadEdge) (.ref C_FloorError) = some true) (s_BadTile_BadCorner : PySem.W.kitOne K (.ref C_BadTile) (.ref C_BadCorner) = some false) (s_BadTile_BadEdge : PySem.W.kitOne K (.ref C_BadTile) (.ref C_BadEdge) = some false) (s_BadTile_BadTile : PySem.W.kitOne K (.ref C_BadTile) (.ref C_BadTile) = some true) (s_BadTile_FloorError : PySem.W.kitOne K (.ref C_BadTile) (.ref C_FloorError) = some true) (d1 : PySem.W.nsOkIn K cStatics = true) (d2 : PySem.W.nsIn K cStatics "sys.int_max_str_digits" = some none) (ta42 : K.lookup cc42 = some ⟨tc42, td42, .fields tv42, ts42⟩) (tb42 : tv42[11]? = some (.ref Pt42)) (n42 : K.lookup Pt42 = none) (th42 : ∀ c Pt : Addr, PySem.W.tabIn K "_law_is_alone_right" = some (c, Pt) → PySem.W.CodeHd h c Pt ∧ h.get? Pt = some { cls := .none, data := .fields #[] }) (ta43 : K.lookup cc43 = some ⟨tc43, td43, .fields tv43, ts43⟩) (tb43 : tv43[11]? = some (.ref Pt43)) (n43 : K.lookup Pt43 = none) (th43 : ∀ c Pt : Addr, PySem.W.tabIn K "_law_are_two_right" = some (c, Pt) → PySem.W.CodeHd h c Pt ∧ h.get? Pt = some { cls := .none, data := .fields #[] }) (u42_43 : (Pt42 == Pt43) = false) :
    ∃ (fd : FuncData) (T : List (Addr × Addr × Str)), (∀ p ∈ T, h.get? p.2.1 = some { cls := .none, data := .fields #[] } ∧ K.lookup p.2.1 = none ∧ PySem.W.CodeHd h p.1 p.2.1) ∧ (∀ (s : Shared) (u : Value), BindsTo s fd ⟨[u], []⟩ [("_law_script", u)]) ∧ ∀ base : Heap, K.In base → base.Ns mainGlobals mg → (∀ p ∈ T, LamX.TabB base mg p.1 p.2.1) → FnG l.prog w K mg base 12 fa fd ["_law_script"] (spLaw K (T.map fun p => (p.2.1, p.2.2))) := by
  have e := hfa.symm.trans (PySem.W.mg_of X G a45)
  cases e
  have bt : Bt mg := ⟨PySem.W.mg_none_of X G z_all, PySem.W.mg_none_of X G z_bool, PySem.W.mg_none_of X G z_int, PySem.W.mg_none_of X G z_isinstance, PySem.W.mg_none_of X G z_len, PySem.W.mg_none_of X G z_list, PySem.W.mg_none_of X G z_max, PySem.W.mg_none_of X G z_min, PySem.W.mg_none_of X G z_range, PySem.W.mg_none_of X G z_repr, PySem.W.mg_none_of X G z_str, PySem.W.mg_none_of X G z_sum, PySem.W.mg_none_of X G z_tuple⟩
  have m_BadCorner : mg "BadCorner" = some (.ref C_BadCorner) := PySem.W.mg_of X G e1_BadCorner
  have m_BadEdge : mg "BadEdge" = some (.ref C_BadEdge) := PySem.W.mg_of X G e1_BadEdge
  have m_BadTile : mg "BadTile" = some (.ref C_BadTile) := PySem.W.mg_of X G e1_BadTile
  have m_FloorError : mg "FloorError" = some (.ref C_FloorError) := PySem.W.mg_of X G e1_FloorError
  have T_BadEdge : ErC K mg "BadEdge" "thing" C_BadEdge fI_BadEdge := ⟨m_BadEdge, x1_BadEdge, x2_BadEdge, x3_BadEdge, x4_BadEdge, x5_BadEdge, x6_BadEdge, x7_BadEdge, e3_BadEdge, e4_BadEdge, e5_BadEdge, x9_BadEdge⟩
  have N_BadEdge := in_BadEdge (fun_mk (x := "__init__") (st := initS 4) y1_BadEdge y2_BadEdge y3_BadEdge)
  have T_BadTile : ErC K mg "BadTile" "thing" C_BadTile fI_BadTile := ⟨m_BadTile, x1_BadTile, x2_BadTile, x3_BadTile, x4_BadTile, x5_BadTile, x6_BadTile, x7_BadTile, e3_BadTile, e4_BadTile, e5_BadTile, x9_BadTile⟩
  have N_BadTile := in_BadTile (fun_mk (x := "__init__") (st := initS 3) y1_BadTile y2_BadTile y3_BadTile)
  have tab : ClsTab ⟨K, mg⟩ clsM := fun x y b u v h hu hv => by
    have hm := look3_mem h
    simp only [clsML, List.mem_cons, List.not_mem_nil, or_false, Prod.mk.injEq] at hm
    rcases hm with ⟨rfl, rfl, rfl⟩ | ⟨rfl, rfl, rfl⟩ | ⟨rfl, rfl, rfl⟩ | ⟨rfl, rfl, rfl⟩ | ⟨rfl, rfl, rfl⟩ | ⟨rfl, rfl, rfl⟩
    · cases m_BadEdge.symm.trans hu; cases m_BadEdge.symm.trans hv; exact exm_of q1_BadEdge e4_BadEdge e5_BadEdge r_BadEdge_BadEdge
    · cases m_BadEdge.symm.trans hu; cases m_BadTile.symm.trans hv; exact exm_of q1_BadTile e4_BadTile e5_BadTile r_BadEdge_BadTile
    · cases m_BadEdge.symm.trans hu; cases m_FloorError.symm.trans hv; exact exm_of q1_FloorError e4_FloorError e5_FloorError r_BadEdge_FloorError
    · cases m_BadTile.symm.trans hu; cases m_BadEdge.symm.trans hv; exact exm_of q1_BadEdge e4_BadEdge e5_BadEdge r_BadTile_BadEdge
    · cases m_BadTile.symm.trans hu; cases m_BadTile.symm.trans hv; exact exm_of q1_BadTile e4_BadTile e5_BadTile r_BadTile_BadTile
    · cases m_BadTile.symm.trans hu; cases m_FloorError.symm.trans hv; exact exm_of q1_FloorError e4_FloorError e5_FloorError r_BadTile_FloorError
  have X_BadEdge : ExcC K C_BadEdge := ⟨g1_BadEdge, g2_BadEdge, e4_BadEdge, x9_BadEdge, g3_BadEdge, gn, gt, g4_BadEdge⟩
  have X_BadTile : ExcC K C_BadTile := ⟨g1_BadTile, g2_BadTile, e4_BadTile, x9_BadTile, g3_BadTile, gn, gt, g4_BadTile⟩
  have isi : IsiTab ⟨K, mg⟩ clsI := fun x y b h => by
    have hm := look3_mem h
    simp only [clsIL, List.mem_cons, List.not_mem_nil, or_false, Prod.mk.injEq] at hm
    rcases hm with ⟨rfl, rfl, rfl⟩ | ⟨rfl, rfl, rfl⟩ | ⟨rfl, rfl, rfl⟩ | ⟨rfl, rfl, rfl⟩ | ⟨rfl, rfl, rfl⟩ | ⟨rfl, rfl, rfl⟩ | ⟨rfl, rfl, rfl⟩ | ⟨rfl, rfl, rfl⟩
    · exact ⟨C_BadEdge, C_BadCorner, m_BadEdge, m_BadCorner, X_BadEdge, s_BadEdge_BadCorner⟩
    · exact ⟨C_BadEdge, C_BadEdge, m_BadEdge, m_BadEdge, X_BadEdge, s_BadEdge_BadEdge⟩
    · exact ⟨C_BadEdge, C_BadTile, m_BadEdge, m_BadTile, X_BadEdge, s_BadEdge_BadTile⟩
    · exact ⟨C_BadEdge, C_FloorError, m_BadEdge, m_FloorError, X_BadEdge, s_BadEdge_FloorError⟩
    · exact ⟨C_BadTile, C_BadCorner, m_BadTile, m_BadCorner, X_BadTile, s_BadTile_BadCorner⟩
    · exact ⟨C_BadTile, C_BadEdge, m_BadTile, m_BadEdge, X_BadTile, s_BadTile_BadEdge⟩
    · exact ⟨C_BadTile, C_BadTile, m_BadTile, m_BadTile, X_BadTile, s_BadTile_BadTile⟩
    · exact ⟨C_BadTile, C_FloorError, m_BadTile, m_FloorError, X_BadTile, s_BadTile_FloorError⟩
  have get_thing : GetTab ⟨K, mg⟩ knownE "thing" := fun nm hk => by
    simp only [knownE, Bool.or_eq_true, beq_iff_eq] at hk
    rcases hk with (rfl | rfl)
    · exact ⟨C_BadEdge, m_BadEdge, ⟨g1_BadEdge, g2_BadEdge, e4_BadEdge, x9_BadEdge, x4_BadEdge⟩⟩
    · exact ⟨C_BadTile, m_BadTile, ⟨g1_BadTile, g2_BadTile, e4_BadTile, x9_BadTile, x4_BadTile⟩⟩
  have ct : Ct K mg := ⟨⟨C_BadEdge, fI_BadEdge, T_BadEdge, N_BadEdge⟩, ⟨C_BadTile, fI_BadTile, T_BadTile, N_BadTile⟩, ⟨C_BadEdge, m_BadEdge⟩, ⟨C_BadTile, m_BadTile⟩, ⟨C_FloorError, m_FloorError⟩, tab, isi, get_thing, ⟨d1, d2⟩⟩
  have F6 := fun_mk (st := top 6) l6 c6 k6
  have F8 := fun_mk (st := top 8) l8 c8 k8
  have F9 := fun_mk (st := top 9) l9 c9 k9
  have F10 := fun_mk (st := top 10) l10 c10 k10
  have F11 := fun_mk (st := top 11) l11 c11 k11
  have F12 := fun_mk (st := top 12) l12 c12 k12
  have F14 := fun_mk (st := top 14) l14 c14 k14
  have F15 := fun_mk (st := top 15) l15 c15 k15
  have F16 := fun_mk (st := top 16) l16 c16 k16
  have F17 := fun_mk (st := top 17) l17 c17 k17
  have F18 := fun_mk (st := top 18) l18 c18 k18
  have F19 := fun_mk (st := top 19) l19 c19 k19
  have F20 := fun_mk (st := top 20) l20 c20 k20
  have F21 := fun_mk (st := top 21) l21 c21 k21
  have F22 := fun_mk (st := top 22) l22 c22 k22
  have F23 := fun_mk (st := top 23) l23 c23 k23
  have F24 := fun_mk (st := top 24) l24 c24 k24
  have F26 := fun_mk (st := top 26) l26 c26 k26
  have F27 := fun_mk (st := top 27) l27 c27 k27
  have F28 := fun_mk (st := top 28) l28 c28 k28
  have F29 := fun_mk (st := top 29) l29 c29 k29
  have F30 := fun_mk (st := top 30) l30 c30 k30
  have F31 := fun_mk (st := top 31) l31 c31 k31
  have F32 := fun_mk (st := top 32) l32 c32 k32
  have F33 := fun_mk (st := top 33) l33 c33 k33
  have F34 := fun_mk (st := top 34) l34 c34 k34
  have F35 := fun_mk (st := top 35) l35 c35 k35
  have F36 := fun_mk (st := top 36) l36 c36 k36
  have F37 := fun_mk (st := top 37) l37 c37 k37
  have F38 := fun_mk (st := top 38) l38 c38 k38
  have F39 := fun_mk (st := top 39) l39 c39 k39
  have F40 := fun_mk (st := top 40) l40 c40 k40
  have F41 := fun_mk (st := top 41) l41 c41 k41
  have F42 : FunC K "_law_is_alone_right" (top 42) f42 (.ref cc42) := ⟨⟨_, _, _, _, _, _, _, _, l42, c42⟩, k42⟩
  have F43 : FunC K "_law_are_two_right" (top 43) f43 (.ref cc43) := ⟨⟨_, _, _, _, _, _, _, _, l43, c43⟩, k43⟩
  have F44 := fun_mk (st := top 44) l44 c44 k44
  have F45 := fun_mk (st := top 45) l45 c45 k45
  refine ⟨PySem.W.fnOf "law" "law" (defArgs (top 45)) (defBody (top 45)) (defScope (top 45)) .none kV45 dc45 pm45 an45 cd45 ct45, [(cc42, Pt42, ql__law_is_alone_right), (cc43, Pt43, ql__law_are_two_right)], fun p hp => ?_, fun s v => .of_eq rfl, fun base _ _ TB => ?_⟩
  · simp only [List.mem_cons, List.not_mem_nil, or_false] at hp
    rcases hp with rfl | rfl
    · have hh := th42 _ _ (tabIn_of a42 l42 rfl ta42 tb42)
      exact ⟨hh.2, n42, hh.1⟩
    · have hh := th43 _ _ (tabIn_of a43 l43 rfl ta43 tb43)
      exact ⟨hh.2, n43, hh.1⟩
  show FnG l.prog w K mg base _ _ _ _ (spLaw K [(Pt42, ql__law_is_alone_right), (Pt43, ql__law_are_two_right)])
  have tb__law_is_alone_right : LamX.TabB base mg cc42 Pt42 := TB (cc42, Pt42, ql__law_is_alone_right) (by simp)
  have inT__law_is_alone_right : (Pt42, ql__law_is_alone_right) ∈ ([(Pt42, ql__law_is_alone_right), (Pt43, ql__law_are_two_right)] : List (Addr × Str)) := by simp
  have one__law_is_alone_right : ∀ p ∈ ([(Pt42, ql__law_is_alone_right), (Pt43, ql__law_are_two_right)] : List (Addr × Str)), p.1 = Pt42 → p.2 = ql__law_is_alone_right := fun p hp e => by
    simp only [List.mem_cons, List.not_mem_nil, or_false] at hp
    rcases hp with rfl | rfl
    · rfl
    · exact absurd (show Pt43 = Pt42 from e) (Ne.symm (beq_eq_false_iff_ne.mp u42_43))
  have tb__law_are_two_right : LamX.TabB base mg cc43 Pt43 := TB (cc43, Pt43, ql__law_are_two_right) (by simp)
  have inT__law_are_two_right : (Pt43, ql__law_are_two_right) ∈ ([(Pt42, ql__law_is_alone_right), (Pt43, ql__law_are_two_right)] : List (Addr × Str)) := by simp
  have one__law_are_two_right : ∀ p ∈ ([(Pt42, ql__law_is_alone_right), (Pt43, ql__law_are_two_right)] : List (Addr × Str)), p.1 = Pt43 → p.2 = ql__law_are_two_right := fun p hp e => by
    simp only [List.mem_cons, List.not_mem_nil, or_false] at hp
    rcases hp with rfl | rfl
    · exact absurd (show Pt42 = Pt43 from e) (beq_eq_false_iff_ne.mp u42_43)
    · rfl
  have O__law_draw := ok__law_draw (P := l.prog) (w := w) (base := base) (T := [(Pt42, ql__law_is_alone_right), (Pt43, ql__law_are_two_right)]) bt (PySem.W.mg_of X G a27) F27
  have O_is_integer := ok_is_integer (P := l.prog) (w := w) (base := base) (T := [(Pt42, ql__law_is_alone_right), (Pt43, ql__law_are_two_right)]) bt ct (PySem.W.mg_of X G a6) F6 
  have O_raised := ok_raised (P := l.prog) (w := w) (base := base) (T := [(Pt42, ql__law_is_alone_right), (Pt43, ql__law_are_two_right)]) bt ct (PySem.W.mg_of X G a11) F11 
  have O_are_near := ok_are_near (P := l.prog) (w := w) (base := base) (T := [(Pt42, ql__law_is_alone_right), (Pt43, ql__law_are_two_right)]) bt ct (PySem.W.mg_of X G a12) F12 
  have O_lies_left := ok_lies_left (P := l.prog) (w := w) (base := base) (T := [(Pt42, ql__law_is_alone_right), (Pt43, ql__law_are_two_right)]) bt ct (PySem.W.mg_of X G a21) F21 
  have O__law_same := ok__law_same (P := l.prog) (w := w) (base := base) (T := [(Pt42, ql__law_is_alone_right), (Pt43, ql__law_are_two_right)]) bt ct (PySem.W.mg_of X G a30) F30 
  have O__law_step := ok__law_step (P := l.prog) (w := w) (base := base) (T := [(Pt42, ql__law_is_alone_right), (Pt43, ql__law_are_two_right)]) bt ct (PySem.W.mg_of X G a31) F31 
  have O__law_is_lefthand := ok__law_is_lefthand (P := l.prog) (w := w) (base := base) (T := [(Pt42, ql__law_is_alone_right), (Pt43, ql__law_are_two_right)]) bt ct (PySem.W.mg_of X G a34) F34 
  have O__law_mark := ok__law_mark (P := l.prog) (w := w) (base := base) (T := [(Pt42, ql__law_is_alone_right), (Pt43, ql__law_are_two_right)]) bt ct (PySem.W.mg_of X G a35) F35 
  have O__law_is_tile := ok__law_is_tile (P := l.prog) (w := w) (base := base) (T := [(Pt42, ql__law_is_alone_right), (Pt43, ql__law_are_two_right)]) bt ct (PySem.W.mg_of X G a37) F37 
  have O__law_told := ok__law_told (P := l.prog) (w := w) (base := base) (T := [(Pt42, ql__law_is_alone_right), (Pt43, ql__law_are_two_right)]) bt ct (PySem.W.mg_of X G a41) F41 
  have O_is_direction := ok_is_direction (P := l.prog) (w := w) (base := base) (T := [(Pt42, ql__law_is_alone_right), (Pt43, ql__law_are_two_right)]) bt ct (PySem.W.mg_of X G a8) F8 O_is_integer
  have O_is_five := ok_is_five (P := l.prog) (w := w) (base := base) (T := [(Pt42, ql__law_is_alone_right), (Pt43, ql__law_are_two_right)]) bt ct (PySem.W.mg_of X G a9) F9 O_is_integer
  have O__law_pick := ok__law_pick (P := l.prog) (w := w) (base := base) (T := [(Pt42, ql__law_is_alone_right), (Pt43, ql__law_are_two_right)]) bt ct (PySem.W.mg_of X G a28) F28 O__law_draw
  have O__law_integer := ok__law_integer (P := l.prog) (w := w) (base := base) (T := [(Pt42, ql__law_is_alone_right), (Pt43, ql__law_are_two_right)]) bt ct (PySem.W.mg_of X G a29) F29 O__law_draw
  have O__law_borders := ok__law_borders (P := l.prog) (w := w) (base := base) (T := [(Pt42, ql__law_is_alone_right), (Pt43, ql__law_are_two_right)]) bt ct (PySem.W.mg_of X G a33) F33 O__law_step
  have O_is_corner_five := ok_is_corner_five (P := l.prog) (w := w) (base := base) (T := [(Pt42, ql__law_is_alone_right), (Pt43, ql__law_are_two_right)]) bt ct (PySem.W.mg_of X G a10) F10 O_is_five
  have O__law_drawn := ok__law_drawn (P := l.prog) (w := w) (base := base) (T := [(Pt42, ql__law_is_alone_right), (Pt43, ql__law_are_two_right)]) bt ct (PySem.W.mg_of X G a32) F32 O__law_draw O__law_integer
  have O__law_do_fit := ok__law_do_fit (P := l.prog) (w := w) (base := base) (T := [(Pt42, ql__law_is_alone_right), (Pt43, ql__law_are_two_right)]) bt ct (PySem.W.mg_of X G a36) F36 O__law_borders O__law_is_lefthand O__law_mark
  have O__law_odd := ok__law_odd (P := l.prog) (w := w) (base := base) (T := [(Pt42, ql__law_is_alone_right), (Pt43, ql__law_are_two_right)]) bt ct (PySem.W.mg_of X G a38) F38 O__law_pick
  have O_is_tile_row := ok_is_tile_row (P := l.prog) (w := w) (base := base) (T := [(Pt42, ql__law_is_alone_right), (Pt43, ql__law_are_two_right)]) bt ct (PySem.W.mg_of X G a14) F14 O_is_direction O_is_corner_five
  have O_is_edge_row := ok_is_edge_row (P := l.prog) (w := w) (base := base) (T := [(Pt42, ql__law_is_alone_right), (Pt43, ql__law_are_two_right)]) bt ct (PySem.W.mg_of X G a23) F23 O_is_corner_five O_is_direction
  have O_need_tile := ok_need_tile (P := l.prog) (w := w) (base := base) (T := [(Pt42, ql__law_is_alone_right), (Pt43, ql__law_are_two_right)]) bt ct (PySem.W.mg_of X G a15) F15 O_is_tile_row
  have O_corners_of := ok_corners_of (P := l.prog) (w := w) (base := base) (T := [(Pt42, ql__law_is_alone_right), (Pt43, ql__law_are_two_right)]) bt ct (PySem.W.mg_of X G a16) F16 O_need_tile O_raised
  have O_edges_of := ok_edges_of (P := l.prog) (w := w) (base := base) (T := [(Pt42, ql__law_is_alone_right), (Pt43, ql__law_are_two_right)]) bt ct (PySem.W.mg_of X G a17) F17 O_need_tile O_raised
  have O_is_thick := ok_is_thick (P := l.prog) (w := w) (base := base) (T := [(Pt42, ql__law_is_alone_right), (Pt43, ql__law_are_two_right)]) bt ct (PySem.W.mg_of X G a18) F18 O_need_tile O_are_near
  have O_is_low := ok_is_low (P := l.prog) (w := w) (base := base) (T := [(Pt42, ql__law_is_alone_right), (Pt43, ql__law_are_two_right)]) bt ct (PySem.W.mg_of X G a19) F19 O_need_tile
  have O__law_bent := ok__law_bent (P := l.prog) (w := w) (base := base) (T := [(Pt42, ql__law_is_alone_right), (Pt43, ql__law_are_two_right)]) bt ct (PySem.W.mg_of X G a39) F39 O__law_draw O__law_odd
  have O_marks_of := ok_marks_of (P := l.prog) (w := w) (base := base) (T := [(Pt42, ql__law_is_alone_right), (Pt43, ql__law_are_two_right)]) bt ct (PySem.W.mg_of X G a20) F20 O_is_low O_is_thick
  have O_is_left := ok_is_left (P := l.prog) (w := w) (base := base) (T := [(Pt42, ql__law_is_alone_right), (Pt43, ql__law_are_two_right)]) bt ct (PySem.W.mg_of X G a22) F22 O_edges_of O_is_edge_row O_lies_left
  have O__law_maybe := ok__law_maybe (P := l.prog) (w := w) (base := base) (T := [(Pt42, ql__law_is_alone_right), (Pt43, ql__law_are_two_right)]) bt ct (PySem.W.mg_of X G a40) F40 O__law_bent O__law_draw
  have O_does_fit := ok_does_fit (P := l.prog) (w := w) (base := base) (T := [(Pt42, ql__law_is_alone_right), (Pt43, ql__law_are_two_right)]) bt ct (PySem.W.mg_of X G a24) F24 O_edges_of O_lies_left O_marks_of
  have O__law_are_neighbours_right := ok__law_are_neighbours_right (P := l.prog) (w := w) (base := base) (T := [(Pt42, ql__law_is_alone_right), (Pt43, ql__law_are_two_right)]) bt ct (PySem.W.mg_of X G a44) F44 O__law_borders O__law_same O_is_left O__law_is_lefthand O__law_step O__law_do_fit O_does_fit
  have O__law_is_alone_right := ok__law_is_alone_right (P := l.prog) (w := w) (base := base) (T := [(Pt42, ql__law_is_alone_right), (Pt43, ql__law_are_two_right)]) tb__law_is_alone_right inT__law_is_alone_right one__law_is_alone_right bt ct (PySem.W.mg_of X G a42) F42 O__law_is_tile O__law_same O__law_told O__law_step O_is_tile_row O_corners_of O_edges_of O_is_thick O_is_low O_marks_of O__law_borders O__law_mark
  have O__law_are_two_right := ok__law_are_two_right (P := l.prog) (w := w) (base := base) (T := [(Pt42, ql__law_is_alone_right), (Pt43, ql__law_are_two_right)]) tb__law_are_two_right inT__law_are_two_right one__law_are_two_right bt ct (PySem.W.mg_of X G a43) F43 O__law_same O__law_is_tile O__law_told O__law_do_fit O__law_borders O__law_is_lefthand O_does_fit O_is_left
  exact ok_law bt ct (PySem.W.mg_of X G a26) F26 F45 O__law_are_neighbours_right O__law_drawn O__law_pick O__law_draw O__law_maybe O__law_same O__law_borders O__law_is_alone_right O__law_are_two_right
end K16

open PySem PySem.W PyProof.Rows in
set_option maxRecDepth 100000 in
set_option maxHeartbeats 0 in
theorem PySem.Challenge.cw_nevertwice_k16_whole_all_tiles_that_coul_holds : PySem.Challenge.rw_nevertwice_k16_whole_all_tiles_that_coul.Holds := by
  w_on; o_law; k_head; (case hw => w_witness2)
  k_fill
  refine ND.walkGT (k := 12) (x := "_law_script") (l := PySem.Challenge.rw_nevertwice_k16_whole_all_tiles_that_coul) rfl rfl ⟨rfl, by decide, by decide⟩ (fun w h Y => PySem.W.km_in_of Y) ?F
  case F =>
    intro w mg mb fa h Y KX G hmg tabs
    refine' K16.all_ok KX G hmg ?a6 ?l6 ?c6 ?k6 ?a8 ?l8 ?c8 ?k8 ?a9 ?l9 ?c9 ?k9 ?a10 ?l10 ?c10 ?k10 ?a11 ?l11 ?c11 ?k11 ?a12 ?l12 ?c12 ?k12 ?a14 ?l14 ?c14 ?k14 ?a15 ?l15 ?c15 ?k15 ?a16 ?l16 ?c16 ?k16 ?a17 ?l17 ?c17 ?k17 ?a18 ?l18 ?c18 ?k18 ?a19 ?l19 ?c19 ?k19 ?a20 ?l20 ?c20 ?k20 ?a21 ?l21 ?c21 ?k21 ?a22 ?l22 ?c22 ?k22 ?a23 ?l23 ?c23 ?k23 ?a24 ?l24 ?c24 ?k24 ?a26 ?l26 ?c26 ?k26 ?a27 ?l27 ?c27 ?k27 ?a28 ?l28 ?c28 ?k28 ?a29 ?l29 ?c29 ?k29 ?a30 ?l30 ?c30 ?k30 ?a31 ?l31 ?c31 ?k31 ?a32 ?l32 ?c32 ?k32 ?a33 ?l33 ?c33 ?k33 ?a34 ?l34 ?c34 ?k34 ?a35 ?l35 ?c35 ?k35 ?a36 ?l36 ?c36 ?k36 ?a37 ?l37 ?c37 ?k37 ?a38 ?l38 ?c38 ?k38 ?a39 ?l39 ?c39 ?k39 ?a40 ?l40 ?c40 ?k40 ?a41 ?l41 ?c41 ?k41 ?a42 ?l42 ?c42 ?k42 ?a43 ?l43 ?c43 ?k43 ?a44 ?l44 ?c44 ?k44 ?a45 ?l45 ?c45 ?k45 ?z_all ?z_bool ?z_int ?z_isinstance ?z_len ?z_list ?z_max ?z_min ?z_range ?z_repr ?z_str ?z_sum ?z_tuple ?e1_BadCorner ?e4_BadCorner ?e5_BadCorner ?e1_BadEdge ?e4_BadEdge ?e5_BadEdge ?q1_BadEdge ?x1_BadEdge ?x2_BadEdge ?x3_BadEdge ?x4_BadEdge ?x5_BadEdge ?x6_BadEdge ?x7_BadEdge ?e3_BadEdge ?x9_BadEdge ?y1_BadEdge ?y2_BadEdge ?y3_BadEdge ?g1_BadEdge ?g2_BadEdge ?g3_BadEdge ?g4_BadEdge ?e1_BadTile ?e4_BadTile ?e5_BadTile ?q1_BadTile ?x1_BadTile ?x2_BadTile ?x3_BadTile ?x4_BadTile ?x5_BadTile ?x6_BadTile ?x7_BadTile ?e3_BadTile ?x9_BadTile ?y1_BadTile ?y2_BadTile ?y3_BadTile ?g1_BadTile ?g2_BadTile ?g3_BadTile ?g4_BadTile ?e1_FloorError ?e4_FloorError ?e5_FloorError ?q1_FloorError ?gn ?gt ?r_BadEdge_BadEdge ?r_BadEdge_BadTile ?r_BadEdge_FloorError ?r_BadTile_BadEdge ?r_BadTile_BadTile ?r_BadTile_FloorError ?s_BadEdge_BadCorner ?s_BadEdge_BadEdge ?s_BadEdge_BadTile ?s_BadEdge_FloorError ?s_BadTile_BadCorner ?s_BadTile_BadEdge ?s_BadTile_BadTile ?s_BadTile_FloorError ?d1 ?d2 ?ta42 ?tb42 ?n42 ?th42 ?ta43 ?tb43 ?n43 ?th43 ?u42_43
    (case a6 => k_is)
    (case l6 => k_is)
    (case c6 => k_is)
    (case k6 => k_is)
    (case a8 => k_is)
    (case l8 => k_is)
    (case c8 => k_is)
    (case k8 => k_is)
    (case a9 => k_is)
    (case l9 => k_is)
    (case c9 => k_is)
    (case k9 => k_is)
    (case a10 => k_is)
    (case l10 => k_is)
    (case c10 => k_is)
    (case k10 => k_is)
    (case a11 => k_is)
    (case l11 => k_is)
    (case c11 => k_is)
    (case k11 => k_is)
    (case a12 => k_is)
    (case l12 => k_is)
    (case c12 => k_is)
    (case k12 => k_is)
    (case a14 => k_is)
    (case l14 => k_is)
    (case c14 => k_is)
    (case k14 => k_is)
    (case a15 => k_is)
    (case l15 => k_is)
    (case c15 => k_is)
    (case k15 => k_is)
    (case a16 => k_is)
    (case l16 => k_is)
    (case c16 => k_is)
    (case k16 => k_is)
    (case a17 => k_is)
    (case l17 => k_is)
    (case c17 => k_is)
    (case k17 => k_is)
    (case a18 => k_is)
    (case l18 => k_is)
    (case c18 => k_is)
    (case k18 => k_is)
    (case a19 => k_is)
    (case l19 => k_is)
    (case c19 => k_is)
    (case k19 => k_is)
    (case a20 => k_is)
    (case l20 => k_is)
    (case c20 => k_is)
    (case k20 => k_is)
    (case a21 => k_is)
    (case l21 => k_is)
    (case c21 => k_is)
    (case k21 => k_is)
    (case a22 => k_is)
    (case l22 => k_is)
    (case c22 => k_is)
    (case k22 => k_is)
    (case a23 => k_is)
    (case l23 => k_is)
    (case c23 => k_is)
    (case k23 => k_is)
    (case a24 => k_is)
    (case l24 => k_is)
    (case c24 => k_is)
    (case k24 => k_is)
    (case a26 => k_is)
    (case l26 => k_is)
    (case c26 => k_is)
    (case k26 => k_is)
    (case a27 => k_is)
    (case l27 => k_is)
    (case c27 => k_is)
    (case k27 => k_is)
    (case a28 => k_is)
    (case l28 => k_is)
    (case c28 => k_is)
    (case k28 => k_is)
    (case a29 => k_is)
    (case l29 => k_is)
    (case c29 => k_is)
    (case k29 => k_is)
    (case a30 => k_is)
    (case l30 => k_is)
    (case c30 => k_is)
    (case k30 => k_is)
    (case a31 => k_is)
    (case l31 => k_is)
    (case c31 => k_is)
    (case k31 => k_is)
    (case a32 => k_is)
    (case l32 => k_is)
    (case c32 => k_is)
    (case k32 => k_is)
    (case a33 => k_is)
    (case l33 => k_is)
    (case c33 => k_is)
    (case k33 => k_is)
    (case a34 => k_is)
    (case l34 => k_is)
    (case c34 => k_is)
    (case k34 => k_is)
    (case a35 => k_is)
    (case l35 => k_is)
    (case c35 => k_is)
    (case k35 => k_is)
    (case a36 => k_is)
    (case l36 => k_is)
    (case c36 => k_is)
    (case k36 => k_is)
    (case a37 => k_is)
    (case l37 => k_is)
    (case c37 => k_is)
    (case k37 => k_is)
    (case a38 => k_is)
    (case l38 => k_is)
    (case c38 => k_is)
    (case k38 => k_is)
    (case a39 => k_is)
    (case l39 => k_is)
    (case c39 => k_is)
    (case k39 => k_is)
    (case a40 => k_is)
    (case l40 => k_is)
    (case c40 => k_is)
    (case k40 => k_is)
    (case a41 => k_is)
    (case l41 => k_is)
    (case c41 => k_is)
    (case k41 => k_is)
    (case a42 => k_is)
    (case l42 => k_is)
    (case c42 => k_is)
    (case k42 => k_is)
    (case a43 => k_is)
    (case l43 => k_is)
    (case c43 => k_is)
    (case k43 => k_is)
    (case a44 => k_is)
    (case l44 => k_is)
    (case c44 => k_is)
    (case k44 => k_is)
    (case a45 => k_is)
    (case l45 => k_is)
    (case c45 => k_is)
    (case k45 => k_is)
    (case z_all => k_is)
    (case z_bool => k_is)
    (case z_int => k_is)
    (case z_isinstance => k_is)
    (case z_len => k_is)
    (case z_list => k_is)
    (case z_max => k_is)
    (case z_min => k_is)
    (case z_range => k_is)
    (case z_repr => k_is)
    (case z_str => k_is)
    (case z_sum => k_is)
    (case z_tuple => k_is)
    (case e1_BadCorner => k_is)
    (case e4_BadCorner => k_is)
    (case e5_BadCorner => k_is)
    (case e1_BadEdge => k_is)
    (case e4_BadEdge => k_is)
    (case e5_BadEdge => k_is)
    (case q1_BadEdge => first | k_is | kernel_rfl)
    (case x1_BadEdge => first | k_exc | k_is | kernel_rfl)
    (case x2_BadEdge => first | k_exc | k_is | kernel_rfl)
    (case x3_BadEdge => k_is)
    (case x4_BadEdge => k_is)
    (case x5_BadEdge => k_is)
    (case x6_BadEdge => k_is)
    (case x7_BadEdge => k_is)
    (case e3_BadEdge => k_is)
    (case x9_BadEdge => k_is)
    (case y1_BadEdge => k_is)
    (case y2_BadEdge => k_is)
    (case y3_BadEdge => k_is)
    (case g1_BadEdge => k_is)
    (case g2_BadEdge => k_is)
    (case g3_BadEdge => k_is)
    (case g4_BadEdge => k_is)
    (case e1_BadTile => k_is)
    (case e4_BadTile => k_is)
    (case e5_BadTile => k_is)
    (case q1_BadTile => first | k_is | kernel_rfl)
    (case x1_BadTile => first | k_exc | k_is | kernel_rfl)
    (case x2_BadTile => first | k_exc | k_is | kernel_rfl)
    (case x3_BadTile => k_is)
    (case x4_BadTile => k_is)
    (case x5_BadTile => k_is)
    (case x6_BadTile => k_is)
    (case x7_BadTile => k_is)
    (case e3_BadTile => k_is)
    (case x9_BadTile => k_is)
    (case y1_BadTile => k_is)
    (case y2_BadTile => k_is)
    (case y3_BadTile => k_is)
    (case g1_BadTile => k_is)
    (case g2_BadTile => k_is)
    (case g3_BadTile => k_is)
    (case g4_BadTile => k_is)
    (case e1_FloorError => k_is)
    (case e4_FloorError => k_is)
    (case e5_FloorError => k_is)
    (case q1_FloorError => first | k_is | kernel_rfl)
    (case gn => k_is)
    (case gt => k_is)
    (case r_BadEdge_BadEdge => k_is)
    (case r_BadEdge_BadTile => k_is)
    (case r_BadEdge_FloorError => k_is)
    (case r_BadTile_BadEdge => k_is)
    (case r_BadTile_BadTile => k_is)
    (case r_BadTile_FloorError => k_is)
    (case s_BadEdge_BadCorner => kit_is)
    (case s_BadEdge_BadEdge => kit_is)
    (case s_BadEdge_BadTile => kit_is)
    (case s_BadEdge_FloorError => kit_is)
    (case s_BadTile_BadCorner => kit_is)
    (case s_BadTile_BadEdge => kit_is)
    (case s_BadTile_BadTile => kit_is)
    (case s_BadTile_FloorError => kit_is)
    (case d1 => kernel_rfl)
    (case d2 => k_is)
    (case ta42 => k_is)
    (case tb42 => rfl)
    (case n42 => first | kernel_rfl | rfl)
    (case th42 => exact fun c Pt => tabs _ "_law_is_alone_right" c Pt rfl)
    (case ta43 => k_is)
    (case tb43 => rfl)
    (case n43 => first | kernel_rfl | rfl)
    (case th43 => exact fun c Pt => tabs _ "_law_are_two_right" c Pt rfl)
    (case u42_43 => first | rfl | kernel_rfl)
