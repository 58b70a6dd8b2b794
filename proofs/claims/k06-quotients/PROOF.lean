import PyProof.Rows.All
import Wide.All
import OpenK.AllK
import Wide.FinOn
import HandS.ForMost
import HandS.ForExc
import HandS.Wide
import HandS.Flow
import HandS.TupAny
import HandS.TupLe
import HandS.Style
import HandS.Deep
import HandS.Codes
import HandS.Zip
import HandS.Gcd
import HandS.IsInst
import HandS.Text
import HandS.Conv
import HandS.WordsDict
import HandS.RaiseMore
import KE.KMathG
import PyProof.StrBlock2
import HandS.WordsExc
import HandS.EndBits
import HandS.Dict
import HandS.Small
import HandS.Exc
import KE.KExcInit
import HandS.TryMany
import HandS.ExcIs
import PyProof.Rows.SumAny
import PyProof.WalksMore
import PyProof.Rows.StrOr
import KE.KIntText
import PyProof.ReprLen
import PySem.Challenge.RW_nevertwice_k06_sums_products_and_quotien
set_option Elab.async false
set_option maxRecDepth 100000
set_option maxHeartbeats 2000000
/-! ND1: data by value over HandS's abstract heap: D, Rep, the growth of a heap, the state of a body, expressions' and statements' judgements -/
namespace ND
open PySem PySem.Spec PyProof.Rows L2

/-- a value by value -/
inductive D where
  | non | bl (b : Bool) | int (i : Int) | str (x : Str)
  | tup (xs : List D) | lst (xs : List D)
  | dic (kvs : List (Key × D))
  | obj (C : Str) (fs : List (Str × D))
  | opq (v : V)

/-- the written part, the module's names -/
structure Kn where
  K : PySem.W.Frag
  mg : Str → Option Value
mutual
/-- v is d, by the frozen part F -/
inductive Rep (K : Kn) (F : Hp) : V → D → Prop
  | non : Rep K F .non .non
  | bl (b : Bool) : Rep K F (.bl b) (.bl b)
  | int (i : Int) : Rep K F (.int i) (.int i)
  | str (x : Str) : Rep K F (.str x) (.str x)
  | tup {a : Addr} {xs : List V} {ds : List D} : SqT K.K F a xs → Reps K F xs ds → Rep K F (.ref a) (.tup ds)
  | lst {a : Addr} {xs : List V} {ds : List D} : F a = some (.lst xs) → Reps K F xs ds → Rep K F (.ref a) (.lst ds)
  | dic {a : Addr} {kvs : List (Key × V)} {ds : List (Key × D)} : F a = some (.dK kvs) → RepKs K F kvs ds → Rep K F (.ref a) (.dic ds)
  | obj {a C dx : Addr} {n : Str} {fs : List (Str × V)} {ds : List (Str × D)} : K.mg n = some (.ref C) → F a = some (.ins C dx fs) → RepFs K F fs ds → Rep K F (.ref a) (.obj n ds)
  | opq (v : V) : Rep K F v (.opq v)
inductive Reps (K : Kn) (F : Hp) : List V → List D → Prop
  | nil : Reps K F [] []
  | cons {v : V} {vs : List V} {d : D} {ds : List D} : Rep K F v d → Reps K F vs ds → Reps K F (v :: vs) (d :: ds)
inductive RepKs (K : Kn) (F : Hp) : List (Key × V) → List (Key × D) → Prop
  | nil : RepKs K F [] []
  | cons {k : Key} {v : V} {vs : List (Key × V)} {d : D} {ds : List (Key × D)} : Rep K F v d → RepKs K F vs ds → RepKs K F ((k, v) :: vs) ((k, d) :: ds)
inductive RepFs (K : Kn) (F : Hp) : List (Str × V) → List (Str × D) → Prop
  | nil : RepFs K F [] []
  | cons {k : Str} {v : V} {vs : List (Str × V)} {d : D} {ds : List (Str × D)} : Rep K F v d → RepFs K F vs ds → RepFs K F ((k, v) :: vs) ((k, d) :: ds)
end

theorem same_t {K : PySem.W.Frag} {H H' : Hp} {a : Addr} {xs : List V} (e : Same H H') (h : SqT K H a xs) : SqT K H' a xs := by
  rcases h with (h | ⟨o, h⟩) | h
  · exact .inl (.inl (e _ _ h))
  · exact .inl (.inr ⟨o, e _ _ h⟩)
  · exact .inr h
theorem same_new {H : Hp} {p : Addr} {o : HO} (h : H p = none) : Same H (upd H p o) := fun b x e => by
  rw [upd_ne (ne_of_none e h)]
  exact e

mutual
theorem Rep.mono {K : Kn} {F F' : Hp} (e : Same F F') : ∀ {v : V} {d : D}, Rep K F v d → Rep K F' v d
  | _, _, .non => .non
  | _, _, .bl b => .bl b
  | _, _, .int i => .int i
  | _, _, .str x => .str x
  | _, _, .tup h r => .tup (same_t e h) (Reps.mono e r)
  | _, _, .lst h r => .lst (e _ _ h) (Reps.mono e r)
  | _, _, .dic h r => .dic (e _ _ h) (RepKs.mono e r)
  | _, _, .obj n h r => .obj n (e _ _ h) (RepFs.mono e r)
  | _, _, .opq v => .opq v
theorem Reps.mono {K : Kn} {F F' : Hp} (e : Same F F') : ∀ {v : List V} {d : List D}, Reps K F v d → Reps K F' v d
  | _, _, .nil => .nil
  | _, _, .cons r t => .cons (Rep.mono e r) (Reps.mono e t)
theorem RepKs.mono {K : Kn} {F F' : Hp} (e : Same F F') : ∀ {v : List (Key × V)} {d : List (Key × D)}, RepKs K F v d → RepKs K F' v d
  | _, _, .nil => .nil
  | _, _, .cons r t => .cons (Rep.mono e r) (RepKs.mono e t)
theorem RepFs.mono {K : Kn} {F F' : Hp} (e : Same F F') : ∀ {v : List (Str × V)} {d : List (Str × D)}, RepFs K F v d → RepFs K F' v d
  | _, _, .nil => .nil
  | _, _, .cons r t => .cons (Rep.mono e r) (RepFs.mono e t)
end

theorem Reps.length {K : Kn} {F : Hp} : ∀ {v : List V} {d : List D}, Reps K F v d → v.length = d.length
  | _, _, .nil => rfl
  | _, _, .cons _ t => by rw [List.length_cons, List.length_cons, Reps.length t]
theorem Reps.get {K : Kn} {F : Hp} : ∀ {v : List V} {d : List D} {i : Nat} {x : D}, Reps K F v d → d[i]? = some x → ∃ u, v[i]? = some u ∧ Rep K F u x
  | _, _, _, _, .nil, e => by simp at e
  | _, _, 0, x, .cons r _, e => by simp at e; subst e; exact ⟨_, rfl, r⟩
  | _, _, i + 1, x, .cons _ t, e => by
    obtain ⟨u, h1, h2⟩ := Reps.get (i := i) (x := x) t (by simpa using e)
    exact ⟨u, by simpa using h1, h2⟩
theorem Reps.getV {K : Kn} {F : Hp} : ∀ {v : List V} {d : List D} {i : Nat} {u : V}, Reps K F v d → v[i]? = some u → ∃ x, d[i]? = some x ∧ Rep K F u x
  | _, _, _, _, .nil, e => by simp at e
  | _, _, 0, x, .cons r _, e => by simp at e; subst e; exact ⟨_, rfl, r⟩
  | _, _, i + 1, x, .cons _ t, e => by
    obtain ⟨u, h1, h2⟩ := Reps.getV (i := i) (u := x) t (by simpa using e)
    exact ⟨u, by simpa using h1, h2⟩
theorem Reps.append {K : Kn} {F : Hp} : ∀ {v v' : List V} {d d' : List D}, Reps K F v d → Reps K F v' d' → Reps K F (v ++ v') (d ++ d')
  | _, _, _, _, .nil, h => h
  | _, _, _, _, .cons r t, h => .cons r (Reps.append t h)
theorem Reps.take {K : Kn} {F : Hp} : ∀ {v : List V} {d : List D} (n : Nat), Reps K F v d → Reps K F (v.take n) (d.take n)
  | _, _, 0, _ => .nil
  | _, _, n + 1, .nil => .nil
  | _, _, n + 1, .cons r t => .cons r (Reps.take n t)
theorem Reps.drop {K : Kn} {F : Hp} : ∀ {v : List V} {d : List D} (n : Nat), Reps K F v d → Reps K F (v.drop n) (d.drop n)
  | _, _, 0, h => h
  | _, _, n + 1, .nil => .nil
  | _, _, n + 1, .cons _ t => Reps.drop n t
theorem Reps.reverse {K : Kn} {F : Hp} : ∀ {v : List V} {d : List D}, Reps K F v d → Reps K F v.reverse d.reverse
  | _, _, .nil => .nil
  | _, _, .cons r t => by
    rw [List.reverse_cons, List.reverse_cons]
    exact Reps.append (Reps.reverse t) (.cons r .nil)
theorem Reps.set {K : Kn} {F : Hp} {u : V} {x : D} (h : Rep K F u x) : ∀ {v : List V} {d : List D} (n : Nat), Reps K F v d → Reps K F (v.set n u) (d.set n x)
  | _, _, _, .nil => .nil
  | _, _, 0, .cons _ t => .cons h t
  | _, _, n + 1, .cons r t => .cons r (Reps.set h n t)
theorem Reps.of_all {K : Kn} {F : Hp} : ∀ {v : List V} {d : List D}, v.length = d.length → (∀ (i : Nat) (u : V) (x : D), v[i]? = some u → d[i]? = some x → Rep K F u x) → Reps K F v d
  | [], [], _, _ => .nil
  | u :: v, x :: d, hl, h => .cons (h 0 u x rfl rfl) (Reps.of_all (by simpa using hl) fun i u' x' e1 e2 => h (i + 1) u' x' (by simpa using e1) (by simpa using e2))
theorem reps_ints {K : Kn} {F : Hp} : ∀ ns : List Int, Reps K F (ns.map V.int) (ns.map D.int)
  | [] => .nil
  | n :: ns => .cons (.int n) (reps_ints ns)

/-! ### the deck: the one object that calls change -/
abbrev WD := Option (Addr × Addr)
def InW (W : WD) (a : Addr) : Prop := ∃ p, W = some p ∧ (a = p.1 ∨ a = p.2)
/-- the dict at p.1 with the keys left (the list at p.2), mixed, draws -/
def deckO (l : Addr) (m n : Int) : HO := .dK [(.inr "left", .ref l), (.inr "mixed", .int m), (.inr "draws", .int n)]
structure DeckAt (p : Addr × Addr) (F H : Hp) : Prop where
  fd : F p.1 = none
  fl : F p.2 = none
  ne : p.1 ≠ p.2
  st : ∃ (ns : List Int) (m n : Int), H p.1 = some (deckO p.2 m n) ∧ H p.2 = some (.lst (ns.map V.int)) ∧ ns.length ≤ 63 ∧ 0 ≤ m ∧ m < 2147483587
def DeckIn (W : WD) (F H : Hp) : Prop := ∀ p, W = some p → DeckAt p F H
theorem deckIn_none {F H : Hp} : DeckIn none F H := fun _ h => nomatch h
theorem DeckIn.w {W : WD} {F H : Hp} {a : Addr} (h : DeckIn W F H) (w : InW W a) : F a = none ∧ H a ≠ none := by
  obtain ⟨p, rfl, e⟩ := w
  have z := h p rfl
  obtain ⟨ns, m, n, h1, h2, _⟩ := z.st
  rcases e with e | e <;> subst e
  · exact ⟨z.fd, by rw [h1]; exact Option.some_ne_none _⟩
  · exact ⟨z.fl, by rw [h2]; exact Option.some_ne_none _⟩
/-- the deck stands where its objects stand -/
theorem DeckIn.keep {W : WD} {F H F' H' : Hp} (h : DeckIn W F H) (hf : ∀ a, InW W a → F' a = F a) (hh : ∀ a, InW W a → H' a = H a) : DeckIn W F' H' := fun p e => by
  have z := h p e
  have i1 : InW W p.1 := ⟨p, e, .inl rfl⟩
  have i2 : InW W p.2 := ⟨p, e, .inr rfl⟩
  obtain ⟨ns, m, n, h1, h2, r⟩ := z.st
  exact ⟨by rw [hf _ i1]; exact z.fd, by rw [hf _ i2]; exact z.fl, z.ne, ns, m, n, by rw [hh _ i1]; exact h1, by rw [hh _ i2]; exact h2, r⟩

/-! ### growth -/
structure Grow (W : WD) (F H F' H' : Hp) : Prop where
  ff : Same F F'
  fh : Same F' H'
  hh : ∀ a o, H a = some o → ¬ InW W a → H' a = some o
  new : ∀ a, F a = none → H a ≠ none → F' a = none
  keep : ∀ a, H a ≠ none → H' a ≠ none
section
variable {W : WD} {F H F1 H1 F2 H2 : Hp} {p : Addr} {o : HO}
theorem Grow.refl (h : Same F H) : Grow W F H F H := ⟨Same.refl F, h, fun _ _ e _ => e, fun _ e _ => e, fun _ e => e⟩
theorem Grow.trans (a : Grow W F H F1 H1) (b : Grow W F1 H1 F2 H2) : Grow W F H F2 H2 :=
  ⟨a.ff.trans b.ff, b.fh, fun x o e w => b.hh x o (a.hh x o e w) w, fun x e n => b.new x (a.new x e n) (a.keep x n), fun x n => b.keep x (a.keep x n)⟩
theorem Grow.back (g : Grow W F H F1 H1) {a : Addr} (h : H1 a = none) : H a = none := by
  cases e : H a with
  | none => rfl
  | some o => exact absurd h (g.keep a (by rw [e]; exact Option.some_ne_none _))
theorem upd_keep {H : Hp} {p a : Addr} {o : HO} (h : H a ≠ none) : upd H p o a ≠ none := by
  by_cases e : a = p
  · subst e
    rw [upd_same]
    exact Option.some_ne_none _
  · rw [upd_ne e]
    exact h
/-- a new tracked object -/
theorem Grow.laid (e : Same F H) (h : H p = none) : Grow W F H F (upd H p o) :=
  ⟨Same.refl F, e.trans (same_new h), fun a u q _ => same_new h a u q, fun _ q _ => q, fun _ q => upd_keep q⟩
theorem same_upd2 (e : Same F H) : Same (upd F p o) (upd H p o) := fun a u q => by
  by_cases z : a = p
  · subst z
    rw [upd_same] at q ⊢
    exact q
  · rw [upd_ne z] at q ⊢
    exact e a u q
/-- a new frozen object -/
theorem Grow.frz (e : Same F H) (h : H p = none) : Grow W F H (upd F p o) (upd H p o) :=
  ⟨same_new (e.free h), same_upd2 e, fun a u q _ => same_new h a u q, fun a q n => by
    have z : a ≠ p := fun z => n (by rw [z]; exact h)
    rw [upd_ne z]
    exact q, fun _ q => upd_keep q⟩
/-- what is new and tracked becomes frozen -/
theorem Grow.freeze {F' H' : Hp} (g : Grow W F H F' H') (hp : H p = none) (fp : F' p = none) (h : H' p = some o) : Grow W F H (upd F' p o) H' :=
  ⟨g.ff.trans (same_new fp), fun a u q => by
    by_cases z : a = p
    · subst z
      rw [upd_same] at q
      rw [h]
      exact q
    · rw [upd_ne z] at q
      exact g.fh a u q, g.hh, fun a q n => by
    have z : a ≠ p := fun z => n (by rw [z]; exact hp)
    rw [upd_ne z]
    exact g.new a q n, g.keep⟩
theorem DeckIn.freeze {F' H' : Hp} (d0 : DeckIn W F H) (d : DeckIn W F' H') (hp : H p = none) : DeckIn W (upd F' p o) H' :=
  d.keep (fun a w => upd_ne fun z => (d0.w w).2 (by rw [z]; exact hp)) fun _ _ => rfl
theorem DeckIn.laid (d : DeckIn W F H) (h : H p = none) : DeckIn W F (upd H p o) :=
  d.keep (fun _ _ => rfl) fun a w => upd_ne fun z => (d.w w).2 (by rw [z]; exact h)
theorem DeckIn.frz (d : DeckIn W F H) (h : H p = none) : DeckIn W (upd F p o) (upd H p o) :=
  d.keep (fun a w => upd_ne fun z => (d.w w).2 (by rw [z]; exact h)) fun a w => upd_ne fun z => (d.w w).2 (by rw [z]; exact h)
end

/-! ### the state of a body -/
/-- a slot: nothing known, data, a list or a dict of one's own -/
inductive SV where
  | no | d (x : D) | ol (xs : List D) | od (kvs : List (Key × D))
/-- where a body began -/
structure Bs where
  W : WD
  F : Hp
  H : Hp
def SlotR (K : Kn) (F H : Hp) : SV → Option Addr → Option V → Prop
  | .no, none, _ => True
  | .d x, none, some v => Rep K F v x
  | .ol xs, some a, some v => v = .ref a ∧ ∃ vs, H a = some (.lst vs) ∧ Reps K F vs xs
  | .od ks, some a, some v => v = .ref a ∧ ∃ vs, H a = some (.dK vs) ∧ RepKs K F vs ks
  | _, _, _ => False
structure Own (B : Bs) (F : Hp) (own : Nat → Option Addr) : Prop where
  inj : ∀ i j a, own i = some a → own j = some a → i = j
  free : ∀ i a, own i = some a → B.H a = none ∧ F a = none
structure Rel (B : Bs) (K : Kn) (σ : List SV) (s : L2.St) (F H : Hp) : Prop where
  base : Grow B.W B.F B.H F H
  bdk : DeckIn B.W B.F B.H
  deck : DeckIn B.W F H
  len : σ.length = s.length
  slots : ∃ own, Own B F own ∧ ∀ (i : Nat) x v, σ[i]? = some x → s[i]? = some v → SlotR K F H x (own i) v
section
variable {B : Bs} {K : Kn} {σ : List SV} {s : L2.St} {F H F' H' : Hp}
theorem Rel.ex (R : Rel B K σ s F H) : Same F H := R.base.fh
theorem Own.notW {own : Nat → Option Addr} (O : Own B F own) (R : DeckIn B.W B.F B.H) {i : Nat} {a : Addr} (h : own i = some a) : ¬ InW B.W a := fun w => (R.w w).2 (O.free i a h).1
theorem SlotR.mono {x : SV} {w : Option Addr} {v : Option V} (h : SlotR K F H x w v) (e : Same F F') (k : ∀ a o, w = some a → H a = some o → H' a = some o) : SlotR K F' H' x w v := by
  cases x <;> cases w <;> cases v <;> first
    | exact h
    | exact False.elim h
    | skip
  · exact Rep.mono e h
  · obtain ⟨h1, vs, h2, h3⟩ := h
    exact ⟨h1, vs, k _ _ rfl h2, Reps.mono e h3⟩
  · obtain ⟨h1, vs, h2, h3⟩ := h
    exact ⟨h1, vs, k _ _ rfl h2, RepKs.mono e h3⟩
theorem SlotR.there {x : SV} {a : Addr} {v : Option V} (h : SlotR K F H x (some a) v) : H a ≠ none := by
  cases x <;> cases v <;> first
    | exact False.elim h
    | (obtain ⟨_, vs, h2, _⟩ := h; rw [h2]; exact Option.some_ne_none _)
theorem Rel.grow (R : Rel B K σ s F H) (g : Grow B.W F H F' H') (d : DeckIn B.W F' H') : Rel B K σ s F' H' := by
  obtain ⟨own, O, h⟩ := R.slots
  have key : ∀ i x, σ[i]? = some x → ∃ v, s[i]? = some v := fun i x e => by
    have h1 : i < s.length := by rw [← R.len]; exact (List.getElem?_eq_some_iff.mp e).1
    exact ⟨s[i], List.getElem?_eq_getElem h1⟩
  -- an owned address out of the slots is of no use: forget it
  refine ⟨R.base.trans g, R.bdk, d, R.len, fun i => if i < σ.length then own i else none, ⟨fun i j a e1 e2 => ?_, fun i a e => ?_⟩, fun i x v e1 e2 => ?_⟩
  · split at e1 <;> split at e2 <;> first | exact O.inj i j a e1 e2 | cases e1 | cases e2
  · split at e
    · rename_i hi
      obtain ⟨h1, h2⟩ := O.free i a e
      refine ⟨h1, g.new a h2 ?_⟩
      obtain ⟨v, ev⟩ := key i σ[i] (by simp [hi])
      have q := h i σ[i] v (by simp [hi]) ev
      rw [e] at q
      exact q.there
    · cases e
  · have hi : i < σ.length := (List.getElem?_eq_some_iff.mp e1).1
    dsimp only
    rw [if_pos hi]
    exact (h i x v e1 e2).mono g.ff fun a o e q => g.hh a o q (O.notW R.bdk e)
/-- a slot takes data -/
theorem Rel.set (R : Rel B K σ s F H) {i : Nat} {v : V} {x : D} (h : Rep K F v x) : Rel B K (σ.set i (.d x)) (s.set i (some v)) F H := by
  obtain ⟨own, O, q⟩ := R.slots
  refine ⟨R.base, R.bdk, R.deck, by rw [List.length_set, List.length_set]; exact R.len, fun j => if j = i then none else own j, ⟨fun a b c e1 e2 => ?_, fun a b e => ?_⟩, fun j y u e1 e2 => ?_⟩
  · split at e1 <;> split at e2 <;> first | exact O.inj a b c e1 e2 | cases e1 | cases e2
  · split at e
    · cases e
    · exact O.free a b e
  · by_cases z : j = i
    · subst z
      have h1 : j < σ.length := by
        have := (List.getElem?_eq_some_iff.mp e1).1
        rwa [List.length_set] at this
      have h2 : j < s.length := by rw [← R.len]; exact h1
      rw [List.getElem?_set_self h1] at e1
      rw [List.getElem?_set_self h2] at e2
      cases e1
      cases e2
      dsimp only
      rw [if_pos rfl]
      exact h
    · rw [List.getElem?_set_ne (Ne.symm z)] at e1 e2
      dsimp only
      rw [if_neg z]
      exact q j y u e1 e2
/-- a slot is forgotten -/
theorem Rel.drop (R : Rel B K σ s F H) {i : Nat} {v : Option V} : Rel B K (σ.set i .no) (s.set i v) F H := by
  obtain ⟨own, O, q⟩ := R.slots
  refine ⟨R.base, R.bdk, R.deck, by rw [List.length_set, List.length_set]; exact R.len, fun j => if j = i then none else own j, ⟨fun a b c e1 e2 => ?_, fun a b e => ?_⟩, fun j y u e1 e2 => ?_⟩
  · split at e1 <;> split at e2 <;> first | exact O.inj a b c e1 e2 | cases e1 | cases e2
  · split at e
    · cases e
    · exact O.free a b e
  · by_cases z : j = i
    · subst z
      have h1 : j < σ.length := by
        have := (List.getElem?_eq_some_iff.mp e1).1
        rwa [List.length_set] at this
      rw [List.getElem?_set_self h1] at e1
      cases e1
      dsimp only
      rw [if_pos rfl]
      trivial
    · rw [List.getElem?_set_ne (Ne.symm z)] at e1 e2
      dsimp only
      rw [if_neg z]
      exact q j y u e1 e2
/-- a slot takes a new object of one's own -/
theorem Rel.setNew (R : Rel B K σ s F H) {i : Nat} {p : Addr} {x : SV} (g : Grow B.W F H F' H') (dk : DeckIn B.W F' H') (hp : H p = none) (fp : F' p = none) (h : SlotR K F' H' x (some p) (some (.ref p))) : Rel B K (σ.set i x) (s.set i (some (.ref p))) F' H' := by
  have R2 := R.grow g dk
  obtain ⟨own, O, q⟩ := R.slots
  have nop : ∀ j a, j < σ.length → own j = some a → H a ≠ none := fun j a hj e => by
    have h2 : j < s.length := by rw [← R.len]; exact hj
    have w := q j σ[j] s[j] (by simp [hj]) (by simp [h2])
    rw [e] at w
    exact w.there
  have bp : B.H p = none := R.base.back hp
  refine ⟨R2.base, R.bdk, R2.deck, by rw [List.length_set, List.length_set]; exact R.len, fun j => if j = i then some p else if j < σ.length then own j else none, ⟨fun a b c e1 e2 => ?_, fun a b e => ?_⟩, fun j y u e1 e2 => ?_⟩
  · split at e1 <;> split at e2 <;> (try split at e1) <;> (try split at e2) <;> (try cases e1) <;> (try cases e2) <;> (try subst_vars) <;> first
      | rfl
      | exact absurd hp (nop _ _ (by assumption) (by assumption))
      | (exact O.inj _ _ _ (by assumption) (by assumption))
  · split at e
    · cases e
      exact ⟨bp, fp⟩
    · split at e
      · rename_i hl
        obtain ⟨h1, h2⟩ := O.free a b e
        exact ⟨h1, g.new b h2 (nop a b hl e)⟩
      · cases e
  · by_cases z : j = i
    · subst z
      have h1 : j < σ.length := by
        have := (List.getElem?_eq_some_iff.mp e1).1
        rwa [List.length_set] at this
      have h2 : j < s.length := by rw [← R.len]; exact h1
      rw [List.getElem?_set_self h1] at e1
      rw [List.getElem?_set_self h2] at e2
      cases e1
      cases e2
      dsimp only
      rw [if_pos rfl]
      exact h
    · rw [List.getElem?_set_ne (Ne.symm z)] at e1 e2
      have hj : j < σ.length := (List.getElem?_eq_some_iff.mp e1).1
      dsimp only
      rw [if_neg z, if_pos hj]
      exact (q j y u e1 e2).mono g.ff fun a o' e w => g.hh a o' w (O.notW R.bdk e)
/-- what a slot with an object of one's own holds -/
theorem Rel.ownL (R : Rel B K σ s F H) {i : Nat} {xs : List D} (h : σ[i]? = some (.ol xs)) : ∃ a vs, s[i]? = some (some (.ref a)) ∧ H a = some (.lst vs) ∧ Reps K F vs xs ∧ ¬ InW B.W a ∧ F a = none ∧ B.H a = none := by
  obtain ⟨own, O, q⟩ := R.slots
  have h1 : i < s.length := by rw [← R.len]; exact (List.getElem?_eq_some_iff.mp h).1
  have w := q i _ s[i] h (by simp [h1])
  cases e : own i with
  | none =>
    rw [e] at w
    exact False.elim (by cases s[i] <;> exact w)
  | some a =>
    rw [e] at w
    cases e2 : s[i] with
    | none =>
      rw [e2] at w
      exact False.elim w
    | some v =>
      rw [e2] at w
      obtain ⟨rfl, vs, h2, h3⟩ := w
      exact ⟨a, vs, by rw [List.getElem?_eq_getElem h1, e2], h2, h3, O.notW R.bdk e, (O.free i a e).2, (O.free i a e).1⟩
theorem Rel.ownD (R : Rel B K σ s F H) {i : Nat} {xs : List (Key × D)} (h : σ[i]? = some (.od xs)) : ∃ a vs, s[i]? = some (some (.ref a)) ∧ H a = some (.dK vs) ∧ RepKs K F vs xs ∧ ¬ InW B.W a ∧ F a = none ∧ B.H a = none := by
  obtain ⟨own, O, q⟩ := R.slots
  have h1 : i < s.length := by rw [← R.len]; exact (List.getElem?_eq_some_iff.mp h).1
  have w := q i _ s[i] h (by simp [h1])
  cases e : own i with
  | none =>
    rw [e] at w
    exact False.elim (by cases s[i] <;> exact w)
  | some a =>
    rw [e] at w
    cases e2 : s[i] with
    | none =>
      rw [e2] at w
      exact False.elim w
    | some v =>
      rw [e2] at w
      obtain ⟨rfl, vs, h2, h3⟩ := w
      exact ⟨a, vs, by rw [List.getElem?_eq_getElem h1, e2], h2, h3, O.notW R.bdk e, (O.free i a e).2, (O.free i a e).1⟩
theorem Rel.dat (R : Rel B K σ s F H) {i : Nat} {x : D} (h : σ[i]? = some (.d x)) : ∃ v, s[i]? = some (some v) ∧ Rep K F v x := by
  obtain ⟨own, O, q⟩ := R.slots
  have h1 : i < s.length := by rw [← R.len]; exact (List.getElem?_eq_some_iff.mp h).1
  have w := q i _ s[i] h (by simp [h1])
  cases e : own i with
  | some a =>
    rw [e] at w
    exact False.elim (by cases s[i] <;> exact w)
  | none =>
    rw [e] at w
    cases e2 : s[i] with
    | none =>
      rw [e2] at w
      exact False.elim w
    | some v =>
      rw [e2] at w
      exact ⟨v, by rw [List.getElem?_eq_getElem h1, e2], w⟩
/-- an object of one's own is written -/
theorem Rel.write (R : Rel B K σ s F H) {i : Nat} {a : Addr} {o : HO} {x y : SV} (hx : σ[i]? = some y) (hy : (∃ xs, y = .ol xs) ∨ ∃ ks, y = .od ks) (hs : s[i]? = some (some (.ref a))) (h : SlotR K F (upd H a o) x (some a) (some (.ref a))) : Rel B K (σ.set i x) s F (upd H a o) := by
  obtain ⟨own, O, q⟩ := R.slots
  have w := q i _ _ hx hs
  have hi : i < σ.length := (List.getElem?_eq_some_iff.mp hx).1
  have eo : own i = some a := by
    cases e : own i with
    | none =>
      rw [e] at w
      rcases hy with ⟨_, rfl⟩ | ⟨_, rfl⟩ <;> exact False.elim w
    | some b =>
      rw [e] at w
      rcases hy with ⟨_, rfl⟩ | ⟨_, rfl⟩
      · obtain ⟨e2, _⟩ := w
        cases e2
        rfl
      · obtain ⟨e2, _⟩ := w
        cases e2
        rfl
  obtain ⟨b0, f0⟩ := O.free i a eo
  have nw := O.notW R.bdk eo
  have nb : ∀ b u, B.H b = some u → b ≠ a := fun b u e z => by rw [z, b0] at e; cases e
  refine ⟨⟨R.base.ff, fun b u e => ?_, fun b u e n => ?_, R.base.new, fun b n => upd_keep (R.base.keep b n)⟩, R.bdk, R.deck.keep (fun _ _ => rfl) fun b z => upd_ne fun e => nw (by rw [← e]; exact z), by rw [List.length_set]; exact R.len, own, O, fun j y' u e1 e2 => ?_⟩
  · have z : b ≠ a := fun z => by rw [z, f0] at e; cases e
    rw [upd_ne z]
    exact R.ex b u e
  · rw [upd_ne (nb b u e)]
    exact R.base.hh b u e n
  · by_cases z : j = i
    · subst z
      rw [List.getElem?_set_self hi] at e1
      cases e1
      rw [hs] at e2
      cases e2
      rw [eo]
      exact h
    · rw [List.getElem?_set_ne (Ne.symm z)] at e1
      refine (q j y' u e1 e2).mono (Same.refl F) fun c o' e k => ?_
      have nc : c ≠ a := fun z' => z (O.inj j i c e (by rw [z']; exact eo))
      rw [upd_ne nc]
      exact k
/-- an object of one's own becomes data -/
theorem Rel.freeze (R : Rel B K σ s F H) {i : Nat} {a : Addr} {o : HO} {y : SV} {x : D} (hx : σ[i]? = some y) (hs : s[i]? = some (some (.ref a))) (ha : H a = some o) (hf : F a = none) (hb : B.H a = none) (hw : ¬ InW B.W a) (hy : (∃ xs, y = .ol xs) ∨ ∃ ks, y = .od ks)
    (h : Rep K (upd F a o) (.ref a) x) : Rel B K (σ.set i (.d x)) s (upd F a o) H := by
  obtain ⟨own, O, q⟩ := R.slots
  have hi : i < σ.length := (List.getElem?_eq_some_iff.mp hx).1
  have w := q i _ _ hx hs
  have eo : own i = some a := by
    cases e : own i with
    | none =>
      rw [e] at w
      rcases hy with ⟨_, rfl⟩ | ⟨_, rfl⟩ <;> exact False.elim w
    | some b =>
      rw [e] at w
      rcases hy with ⟨_, rfl⟩ | ⟨_, rfl⟩
      · obtain ⟨e2, _⟩ := w
        cases e2
        rfl
      · obtain ⟨e2, _⟩ := w
        cases e2
        rfl
  have sm : Same F (upd F a o) := same_new hf
  refine ⟨⟨R.base.ff.trans sm, fun b u e => ?_, R.base.hh, fun b e n => ?_, R.base.keep⟩, R.bdk, R.deck.keep (fun b z => upd_ne fun e => hw (by rw [← e]; exact z)) fun _ _ => rfl, by rw [List.length_set]; exact R.len,
    fun j => if j = i then none else own j, ⟨fun b c d e1 e2 => ?_, fun b c e => ?_⟩, fun j y' u e1 e2 => ?_⟩
  · by_cases z : b = a
    · subst z
      rw [upd_same] at e
      rw [ha]
      exact e
    · rw [upd_ne z] at e
      exact R.ex b u e
  · have z : b ≠ a := fun z => n (by rw [z]; exact hb)
    rw [upd_ne z]
    exact R.base.new b e n
  · split at e1 <;> split at e2 <;> first | exact O.inj b c d e1 e2 | cases e1 | cases e2
  · split at e
    · cases e
    · rename_i nz
      obtain ⟨h1, h2⟩ := O.free b c e
      refine ⟨h1, ?_⟩
      have z : c ≠ a := fun z => nz (O.inj b i c e (by rw [z]; exact eo))
      rw [upd_ne z]
      exact h2
  · by_cases z : j = i
    · subst z
      rw [List.getElem?_set_self hi] at e1
      cases e1
      rw [hs] at e2
      cases e2
      dsimp only
      rw [if_pos rfl]
      exact h
    · rw [List.getElem?_set_ne (Ne.symm z)] at e1
      dsimp only
      rw [if_neg z]
      exact (q j y' u e1 e2).mono sm fun _ _ _ k => k
end
end ND

/-! ND2: expressions -/
namespace ND
open PySem PySem.Spec L2

/-! ### judgements -/
abbrev _root_.L2.Cx.kn (X : Cx) : Kn := ⟨X.K, X.mg⟩
abbrev GE := List SV → (D → Prop) → Prop
abbrev GT := List SV → (Bool → Prop) → Prop
abbrev GA := List SV → (List D → Prop) → Prop
/-- what is borrowed: data, or an object of one's own as it stands -/
def RepB (W : WD) (K : Kn) (F H : Hp) (v : V) (d : D) : Prop :=
  Rep K F v d ∨ (∃ a ds vs, v = .ref a ∧ d = .lst ds ∧ ¬ InW W a ∧ H a = some (.lst vs) ∧ Reps K F vs ds) ∨ ∃ a ds vs, v = .ref a ∧ d = .dic ds ∧ ¬ InW W a ∧ H a = some (.dK vs) ∧ RepKs K F vs ds
theorem RepB.grow {W : WD} {K : Kn} {F H F' H' : Hp} {v : V} {d : D} (h : RepB W K F H v d) (g : Grow W F H F' H') : RepB W K F' H' v d := by
  rcases h with h | ⟨a, ds, vs, e1, e2, n, e3, r⟩ | ⟨a, ds, vs, e1, e2, n, e3, r⟩
  · exact .inl (h.mono g.ff)
  · exact .inr (.inl ⟨a, ds, vs, e1, e2, n, g.hh _ _ e3 n, r.mono g.ff⟩)
  · exact .inr (.inr ⟨a, ds, vs, e1, e2, n, g.hh _ _ e3 n, r.mono g.ff⟩)
theorem RepB.lst {W : WD} {K : Kn} {F H : Hp} {v : V} {ds : List D} (h : RepB W K F H v (.lst ds)) (e : Same F H) : ∃ a vs, v = .ref a ∧ H a = some (.lst vs) ∧ Reps K F vs ds := by
  rcases h with h | ⟨a, ds', vs, e1, e2, n, e3, r⟩ | ⟨a, ds', vs, e1, e2, n, e3, r⟩
  · cases h with
    | lst h r => exact ⟨_, _, rfl, e _ _ h, r⟩
  · cases e2
    exact ⟨a, vs, e1, e3, r⟩
  · cases e2
theorem RepB.dic {W : WD} {K : Kn} {F H : Hp} {v : V} {ds : List (Key × D)} (h : RepB W K F H v (.dic ds)) (e : Same F H) : ∃ a vs, v = .ref a ∧ H a = some (.dK vs) ∧ RepKs K F vs ds := by
  rcases h with h | ⟨a, ds', vs, e1, e2, n, e3, r⟩ | ⟨a, ds', vs, e1, e2, n, e3, r⟩
  · cases h with
    | dic h r => exact ⟨_, _, rfl, e _ _ h, r⟩
  · cases e2
  · cases e2
    exact ⟨a, vs, e1, e3, r⟩
theorem RepB.tup {W : WD} {K : Kn} {F H : Hp} {v : V} {ds : List D} (h : RepB W K F H v (.tup ds)) (e : Same F H) : ∃ a vs, v = .ref a ∧ SqT K.K F a vs ∧ SqT K.K H a vs ∧ Reps K F vs ds := by
  rcases h with h | ⟨a, ds', vs, e1, e2, n, e3, r⟩ | ⟨a, ds', vs, e1, e2, n, e3, r⟩
  · cases h with
    | tup h r => exact ⟨_, _, rfl, h, same_t e h, r⟩
  · cases e2
  · cases e2
theorem RepB.int {W : WD} {K : Kn} {F H : Hp} {v : V} {i : Int} (h : RepB W K F H v (.int i)) : v = .int i := by
  rcases h with h | ⟨a, ds', vs, e1, e2, n, e3, r⟩ | ⟨a, ds', vs, e1, e2, n, e3, r⟩
  · cases h
    rfl
  · cases e2
  · cases e2
theorem RepB.bl {W : WD} {K : Kn} {F H : Hp} {v : V} {i : Bool} (h : RepB W K F H v (.bl i)) : v = .bl i := by
  rcases h with h | ⟨a, ds', vs, e1, e2, n, e3, r⟩ | ⟨a, ds', vs, e1, e2, n, e3, r⟩
  · cases h
    rfl
  · cases e2
  · cases e2
theorem RepB.str {W : WD} {K : Kn} {F H : Hp} {v : V} {i : Str} (h : RepB W K F H v (.str i)) : v = .str i := by
  rcases h with h | ⟨a, ds', vs, e1, e2, n, e3, r⟩ | ⟨a, ds', vs, e1, e2, n, e3, r⟩
  · cases h
    rfl
  · cases e2
  · cases e2
theorem RepB.non {W : WD} {K : Kn} {F H : Hp} {v : V} (h : RepB W K F H v .non) : v = .non := by
  rcases h with h | ⟨a, ds', vs, e1, e2, n, e3, r⟩ | ⟨a, ds', vs, e1, e2, n, e3, r⟩
  · cases h
    rfl
  · cases e2
  · cases e2
theorem RepB.opq {W : WD} {K : Kn} {F H : Hp} {v u : V} (h : RepB W K F H v (.opq u)) : v = u := by
  rcases h with h | ⟨a, ds', vs, e1, e2, n, e3, r⟩ | ⟨a, ds', vs, e1, e2, n, e3, r⟩
  · cases h
    rfl
  · cases e2
  · cases e2
theorem RepB.obj {W : WD} {K : Kn} {F H : Hp} {v : V} {n : Str} {ds : List (Str × D)} (h : RepB W K F H v (.obj n ds)) (e : Same F H) : ∃ a C dx fs, K.mg n = some (.ref C) ∧ v = .ref a ∧ H a = some (.ins C dx fs) ∧ RepFs K F fs ds := by
  rcases h with h | ⟨a, ds', vs, e1, e2, n, e3, r⟩ | ⟨a, ds', vs, e1, e2, n, e3, r⟩
  · cases h with
    | obj n h r => exact ⟨_, _, _, _, n, rfl, e _ _ h, r⟩
  · cases e2
  · cases e2

/-- the data Qd are wanted: so is Q of each value that is one of them -/
def Fin (B : Bs) (K : Kn) (F H : Hp) (Qd : D → Prop) (Q : VK) : Prop := ∀ d, Qd d → ∀ F' H' v, Grow B.W F H F' H' → DeckIn B.W F' H' → Rep K F' v d → Q v H'
def FinB (B : Bs) (K : Kn) (F H : Hp) (Qd : D → Prop) (Q : VK) : Prop := ∀ d, Qd d → ∀ F' H' v, Grow B.W F H F' H' → DeckIn B.W F' H' → RepB B.W K F' H' v d → Q v H'
def FinT (B : Bs) (F H : Hp) (Qd : Bool → Prop) (Q : Bool → Hp → Prop) : Prop := ∀ b, Qd b → ∀ F' H', Grow B.W F H F' H' → DeckIn B.W F' H' → Q b H'
def FinA (B : Bs) (K : Kn) (F H : Hp) (Qd : List D → Prop) (Q : List V → Hp → Prop) : Prop := ∀ ds, Qd ds → ∀ F' H' vs, Grow B.W F H F' H' → DeckIn B.W F' H' → Reps K F' vs ds → Q vs H'
inductive RepBs (W : WD) (K : Kn) (F H : Hp) : List V → List D → Prop
  | nil : RepBs W K F H [] []
  | cons {v : V} {vs : List V} {d : D} {ds : List D} : RepB W K F H v d → RepBs W K F H vs ds → RepBs W K F H (v :: vs) (d :: ds)
def FinAB (B : Bs) (K : Kn) (F H : Hp) (Qd : List D → Prop) (Q : List V → Hp → Prop) : Prop := ∀ ds, Qd ds → ∀ F' H' vs, Grow B.W F H F' H' → DeckIn B.W F' H' → RepBs B.W K F' H' vs ds → Q vs H'
/-- a new list, not frozen yet -/
def FinF (B : Bs) (K : Kn) (F H : Hp) (Qd : List D → Prop) (Q : VK) : Prop := ∀ ds, Qd ds → ∀ F' H' p vs, Grow B.W F H F' H' → DeckIn B.W F' H' → H p = none → F' p = none → H' p = some (.lst vs) → Reps K F' vs ds → Q (.ref p) H'

def LE (B : Bs) (K : Kn) (f : GE) : TE := fun s H Q => ∃ σ F Qd, Rel B K σ s F H ∧ f σ Qd ∧ Fin B K F H Qd Q
def LB (B : Bs) (K : Kn) (f : GE) : TE := fun s H Q => ∃ σ F Qd, Rel B K σ s F H ∧ f σ Qd ∧ FinB B K F H Qd Q
def LF (B : Bs) (K : Kn) (f : GA) : TE := fun s H Q => ∃ σ F Qd, Rel B K σ s F H ∧ f σ Qd ∧ FinF B K F H Qd Q
def LT (B : Bs) (K : Kn) (f : GT) : TT := fun s H Q => ∃ σ F Qd, Rel B K σ s F H ∧ f σ Qd ∧ FinT B F H Qd Q
def LA (B : Bs) (K : Kn) (f : GA) : TA := fun s H Q => ∃ σ F Qd, Rel B K σ s F H ∧ f σ Qd ∧ FinA B K F H Qd Q
def LAB (B : Bs) (K : Kn) (f : GA) : TA := fun s H Q => ∃ σ F Qd, Rel B K σ s F H ∧ f σ Qd ∧ FinAB B K F H Qd Q
/-- an expression gives data | may be borrowed | gives a new list | a test | arguments -/
structure ED (B : Bs) (X : Cx) (e : Expr) (f : GE) : Prop where
  run : PE X e (LE B X.kn f)
structure BD (B : Bs) (X : Cx) (e : Expr) (f : GE) : Prop where
  run : PE X e (LB B X.kn f)
structure FD (B : Bs) (X : Cx) (e : Expr) (f : GA) : Prop where
  run : PE X e (LF B X.kn f)
structure TD (B : Bs) (X : Cx) (e : Expr) (f : GT) : Prop where
  run : PT X e (LT B X.kn f)
structure WDd (B : Bs) (X : Cx) (e : Expr) (f : GT) : Prop where
  run : PW X e (LT B X.kn f)
structure AD (B : Bs) (X : Cx) (es : List Expr) (f : GA) : Prop where
  run : PA X es (LA B X.kn f)
structure ABD (B : Bs) (X : Cx) (es : List Expr) (f : GA) : Prop where
  run : PA X es (LAB B X.kn f)

theorem pe_imp {X : Cx} {e : Expr} {t t' : TE} (h : PE X e t) (w : ∀ s H Q, t' s H Q → t s H Q) : PE X e t' := ⟨fun pins s σ H Q I q => h.run pins s σ H Q I (w _ _ _ q)⟩
theorem pt_imp {X : Cx} {e : Expr} {t t' : TT} (h : PT X e t) (w : ∀ s H Q, t' s H Q → t s H Q) : PT X e t' := ⟨fun pins s σ H Q I q => h.run pins s σ H Q I (w _ _ _ q)⟩
theorem pw_imp {X : Cx} {e : Expr} {t t' : TT} (h : PW X e t) (w : ∀ s H Q, t' s H Q → t s H Q) : PW X e t' := ⟨fun wh pins s σ H Q I q => h.run wh pins s σ H Q I (w _ _ _ q)⟩
theorem pa_imp {X : Cx} {e : List Expr} {t t' : TA} (h : PA X e t) (w : ∀ s H Q, t' s H Q → t s H Q) : PA X e t' := ⟨fun pos pins s σ H Q I q => h.run pos pins s σ H Q I (w _ _ _ q)⟩

section
variable {B : Bs} {X : Cx} {e a b c : Expr} {es : List Expr} {f fa fb fc : GE} {pos : Pos}
theorem Fin.more {K : Kn} {F H F' H' : Hp} {Qd : D → Prop} {Q : VK} (h : Fin B K F H Qd Q) (g : Grow B.W F H F' H') : Fin B K F' H' Qd Q := fun d q F2 H2 v g2 dk r => h d q F2 H2 v (g.trans g2) dk r
theorem FinB.more {K : Kn} {F H F' H' : Hp} {Qd : D → Prop} {Q : VK} (h : FinB B K F H Qd Q) (g : Grow B.W F H F' H') : FinB B K F' H' Qd Q := fun d q F2 H2 v g2 dk r => h d q F2 H2 v (g.trans g2) dk r
theorem FinT.more {F H F' H' : Hp} {Qd : Bool → Prop} {Q : Bool → Hp → Prop} (h : FinT B F H Qd Q) (g : Grow B.W F H F' H') : FinT B F' H' Qd Q := fun d q F2 H2 g2 dk => h d q F2 H2 (g.trans g2) dk
theorem FinA.more {K : Kn} {F H F' H' : Hp} {Qd : List D → Prop} {Q : List V → Hp → Prop} (h : FinA B K F H Qd Q) (g : Grow B.W F H F' H') : FinA B K F' H' Qd Q := fun d q F2 H2 v g2 dk r => h d q F2 H2 v (g.trans g2) dk r
theorem FinAB.more {K : Kn} {F H F' H' : Hp} {Qd : List D → Prop} {Q : List V → Hp → Prop} (h : FinAB B K F H Qd Q) (g : Grow B.W F H F' H') : FinAB B K F' H' Qd Q := fun d q F2 H2 v g2 dk r => h d q F2 H2 v (g.trans g2) dk r
theorem FinF.more {K : Kn} {F H F' H' : Hp} {Qd : List D → Prop} {Q : VK} (h : FinF B K F H Qd Q) (g : Grow B.W F H F' H') : FinF B K F' H' Qd Q := fun d q F2 H2 p vs g2 dk hp fp e r => h d q F2 H2 p vs (g.trans g2) dk (g.back hp) fp e r
/-- a list just laid -/
theorem FinF.laid {K : Kn} {F H : Hp} {Qd : List D → Prop} {Q : VK} (h : FinF B K F H Qd Q) (e : Same F H) (dk : DeckIn B.W F H) {ds : List D} {p : Addr} {vs : List V} (q : Qd ds) (hp : H p = none) (r : Reps K F vs ds) : Q (.ref p) (upd H p (.lst vs)) :=
  h ds q F _ p vs (Grow.laid e hp) (dk.laid hp) hp (e.free hp) upd_same r

theorem ED.toB (h : ED B X e f) : BD B X e f := ⟨pe_imp h.run fun s H Q ⟨σ, F, Qd, R, q, k⟩ => ⟨σ, F, Qd, R, q, fun d qd F' H' v g dk r => k d qd F' H' v g dk (.inl r)⟩⟩
/-- a new list becomes data -/
@[simp] def gFrz (f : GA) (σ : List SV) (Q : D → Prop) : Prop := f σ fun ds => Q (.lst ds)
theorem fin_frz {K : Kn} {F H : Hp} {Qd : D → Prop} {Q : VK} (d0 : DeckIn B.W F H) (k : Fin B K F H Qd Q) : FinF B K F H (fun ds => Qd (.lst ds)) Q := fun ds qd F' H' p vs g dk hp fp e r =>
  k _ qd _ _ _ (g.freeze hp fp e) (d0.freeze dk hp) (.lst upd_same (r.mono (same_new fp)))
theorem FD.toE {f : GA} (h : FD B X e f) : ED B X e (gFrz f) := ⟨pe_imp h.run fun s H Q ⟨σ, F, Qd, R, q, k⟩ => ⟨σ, F, fun ds => Qd (.lst ds), R, q, fin_frz R.deck k⟩⟩
theorem FD.toB {f : GA} (h : FD B X e f) : BD B X e (gFrz f) := h.toE.toB

/-! ### names, constants -/
@[simp] def gVar (i : Nat) (σ : List SV) (Q : D → Prop) : Prop := match σ[i]? with | some (.d x) => Q x | _ => False
@[simp] def gVarB (i : Nat) (σ : List SV) (Q : D → Prop) : Prop := match σ[i]? with | some (.d x) => Q x | some (.ol xs) => Q (.lst xs) | some (.od ks) => Q (.dic ks) | _ => False
@[simp] def gC (d : D) (_ : List SV) (Q : D → Prop) : Prop := Q d
theorem ed_var (i : Nat) {x : Str} (h : PE X (.Name x pos) (tVar i)) : ED B X (.Name x pos) (gVar i) := ⟨pe_imp h fun s H Q ⟨σ, F, Qd, R, q, k⟩ => by
  unfold gVar at q
  split at q
  · rename_i x e
    obtain ⟨v, h1, h2⟩ := R.dat e
    exact ⟨v, h1, k _ q F H v (Grow.refl R.ex) R.deck h2⟩
  · exact q.elim⟩
theorem bd_var (i : Nat) {x : Str} (h : PE X (.Name x pos) (tVar i)) : BD B X (.Name x pos) (gVarB i) := ⟨pe_imp h fun s H Q ⟨σ, F, Qd, R, q, k⟩ => by
  unfold gVarB at q
  split at q
  · rename_i x e
    obtain ⟨v, h1, h2⟩ := R.dat e
    exact ⟨v, h1, k _ q F H v (Grow.refl R.ex) R.deck (.inl h2)⟩
  · rename_i xs e
    obtain ⟨a, vs, h1, h2, h3, h4, _⟩ := R.ownL e
    exact ⟨.ref a, h1, k _ q F H _ (Grow.refl R.ex) R.deck (.inr (.inl ⟨a, xs, vs, rfl, rfl, h4, h2, h3⟩))⟩
  · rename_i xs e
    obtain ⟨a, vs, h1, h2, h3, h4, _⟩ := R.ownD e
    exact ⟨.ref a, h1, k _ q F H _ (Grow.refl R.ex) R.deck (.inr (.inr ⟨a, xs, vs, rfl, rfl, h4, h2, h3⟩))⟩
  · exact q.elim⟩
/-- a value that is known -/
theorem ed_c {v : V} {d : D} (h : PE X e (tC v)) (r : ∀ F, Rep X.kn F v d) : ED B X e (gC d) := ⟨pe_imp h fun s H Q ⟨σ, F, Qd, R, q, k⟩ => k d q F H v (Grow.refl R.ex) R.deck (r F)⟩
theorem ed_int {i : Int} {j : Nat} : ED B X (.Constant (.int i) j pos) (gC (.int i)) := ed_c pe_int fun _ => .int i
theorem ed_bl {i : Bool} {j : Nat} : ED B X (.Constant (.bool i) j pos) (gC (.bl i)) := ed_c pe_bl fun _ => .bl i
theorem ed_non {j : Nat} : ED B X (.Constant .none j pos) (gC .non) := ed_c pe_non fun _ => .non
theorem ed_str {x : Str} {j : Nat} : ED B X (.Constant (.str x) j pos) (gC (.str x)) := ed_c pe_str fun _ => .str x

/-! ### two in a row -/
theorem lb_two {K : Kn} {s : L2.St} {σ : List SV} {F H : Hp} {R2 : V → V → Hp → Prop} {Qd : D → D → Prop} (R : Rel B K σ s F H) (q : fa σ fun x => fb σ fun y => Qd x y)
    (k : ∀ x y F' H' v u, Qd x y → Grow B.W F H F' H' → DeckIn B.W F' H' → RepB B.W K F' H' v x → RepB B.W K F' H' u y → R2 v u H') : LB B K fa s H fun v H1 => LB B K fb s H1 fun u H2 => R2 v u H2 :=
  ⟨σ, F, _, R, q, fun x qx F1 H1 v g1 d1 r1 => ⟨σ, F1, _, R.grow g1 d1, qx, fun y qy F2 H2 u g2 d2 r2 => k x y F2 H2 v u qy (g1.trans g2) d2 (r1.grow g2) r2⟩⟩
/-- an operation on values, by data -/
def LO2 (B : Bs) (K : Kn) (g : D → D → (D → Prop) → Prop) : R2 := fun v u H Q => ∃ F x y Qd, Same F H ∧ DeckIn B.W F H ∧ RepB B.W K F H v x ∧ RepB B.W K F H u y ∧ g x y Qd ∧ Fin B K F H Qd Q
def LO1 (B : Bs) (K : Kn) (g : D → (D → Prop) → Prop) : V → Hp → VK → Prop := fun v H Q => ∃ F x Qd, Same F H ∧ DeckIn B.W F H ∧ RepB B.W K F H v x ∧ g x Qd ∧ Fin B K F H Qd Q
@[simp] def gBin (g : D → D → (D → Prop) → Prop) (fa fb : GE) (σ : List SV) (Q : D → Prop) : Prop := fa σ fun x => fb σ fun y => g x y Q
@[simp] def gUn (g : D → (D → Prop) → Prop) (fa : GE) (σ : List SV) (Q : D → Prop) : Prop := fa σ fun x => g x Q
variable {g : D → D → (D → Prop) → Prop}
theorem lo2_of {K : Kn} {s : L2.St} {σ : List SV} {F H : Hp} {Qd : D → Prop} {Q : VK} (R : Rel B K σ s F H) (q : gBin g fa fb σ Qd) (k : Fin B K F H Qd Q) : tOp (LO2 B K g) (LB B K fa) (LB B K fb) s H Q :=
  lb_two (Qd := fun x y => g x y Qd) R q fun x y F' H' v u q g' d r1 r2 => ⟨F', x, y, Qd, g'.fh, d, r1, r2, q, k.more g'⟩
theorem ed_bin {op : Operator} (ho : OpR X (binaryOp op) (LO2 B X.kn g)) (ha : BD B X a fa) (hb : BD B X b fb) : ED B X (.BinOp a op b pos) (gBin g fa fb) :=
  ⟨pe_imp (pe_op ho ha.run hb.run) fun s H Q ⟨σ, F, Qd, R, q, k⟩ => lo2_of R q k⟩
theorem ed_un {op : UnaryOp} {g : D → (D → Prop) → Prop} (ho : UnR X (unaryOp op) (LO1 B X.kn g)) (ha : BD B X a fa) : ED B X (.UnaryOp op a pos) (gUn g fa) :=
  ⟨pe_imp (pe_un ho ha.run) fun s H Q ⟨σ, F, Qd, R, q, k⟩ => ⟨σ, F, _, R, q, fun x qx F1 H1 v g1 d1 r1 => ⟨F1, x, Qd, g1.fh, d1, r1, qx, k.more g1⟩⟩⟩
theorem opR_imp {f : Value → Value → Sem Value} {r r' : R2} (h : OpR X f r) (w : ∀ v u H Q, r' v u H Q → r v u H Q) : OpR X f r' := fun pins s σ H x y v u Q I rx ry q => h pins s σ H x y v u Q I rx ry (w _ _ _ _ q)
theorem opR_by {f : Value → Value → Sem Value} {r' : R2} (w : ∀ v u H Q, r' v u H Q → ∃ r, OpR X f r ∧ r v u H Q) : OpR X f r' := fun pins s σ H x y v u Q I rx ry q => by
  obtain ⟨r, h, q'⟩ := w _ _ _ _ q
  exact h pins s σ H x y v u Q I rx ry q'
theorem unR_by {f : Value → Sem Value} {r' : V → Hp → VK → Prop} (w : ∀ v H Q, r' v H Q → ∃ r, UnR X f r ∧ r v H Q) : UnR X f r' := fun pins s σ H x v Q I rx q => by
  obtain ⟨r, h, q'⟩ := w _ _ _ q
  exact h pins s σ H x v Q I rx q'
theorem Fin.here {K : Kn} {F H : Hp} {Qd : D → Prop} {Q : VK} (k : Fin B K F H Qd Q) (e : Same F H) (dk : DeckIn B.W F H) {d : D} {v : V} (q : Qd d) (r : Rep K F v d) : Q v H := k d q F H v (Grow.refl e) dk r
theorem Fin.frz {K : Kn} {F H : Hp} {Qd : D → Prop} {Q : VK} (k : Fin B K F H Qd Q) (e : Same F H) (dk : DeckIn B.W F H) {d : D} {p : Addr} {o : HO} (q : Qd d) (hp : H p = none) (r : Rep K (upd F p o) (.ref p) d) : Q (.ref p) (upd H p o) :=
  k d q _ _ _ (Grow.frz e hp) (dk.frz hp) r

/-! ### arithmetic -/
/-- integers that may be multiplied -/
def MulOk (i j : Int) : Prop := i.natAbs.log2 + j.natAbs.log2 < 1000000
def DivOk (j : Int) : Prop := j ≠ 0 ∧ j.natAbs.log2 < 9000
def addD : D → D → (D → Prop) → Prop
  | .int i, .int j, Q => Q (.int (i + j))
  | .str i, .str j, Q => i.length + j.length ≤ sizeLine ∧ Q (.str (i ++ j))
  | .tup xs, .tup ys, Q => xs.length + ys.length ≤ sizeLine ∧ Q (.tup (xs ++ ys))
  | .lst xs, .lst ys, Q => xs.length + ys.length ≤ sizeLine ∧ Q (.lst (xs ++ ys))
  | _, _, _ => False
def subD : D → D → (D → Prop) → Prop
  | .int i, .int j, Q => Q (.int (i - j))
  | _, _, _ => False
def mulD : D → D → (D → Prop) → Prop
  | .int i, .int j, Q => MulOk i j ∧ Q (.int (i * j))
  | .lst xs, .int k, Q => 0 ≤ k ∧ k < 2 ^ 63 ∧ xs.length * k.toNat ≤ sizeLine ∧ Q (.lst (List.replicate k.toNat xs).flatten)
  | _, _, _ => False
/-- floors: by a positive divisor as Lean's / and % -/
def fdivD : D → D → (D → Prop) → Prop
  | .int i, .int j, Q => 0 < j ∧ j.natAbs.log2 < 9000 ∧ Q (.int (i / j))
  | _, _, _ => False
def modD : D → D → (D → Prop) → Prop
  | .int i, .int j, Q => 0 < j ∧ Q (.int (i % j))
  | _, _, _ => False
def powD : D → D → (D → Prop) → Prop
  | .int i, .int j, Q => 0 ≤ j ∧ j ≤ 1000000 ∧ i.natAbs < 2 ^ 64 ∧ Q (.int (i ^ j.toNat))
  | _, _, _ => False
def shlD : D → D → (D → Prop) → Prop
  | .int i, .int j, Q => 0 ≤ j ∧ j ≤ 1000000 ∧ i.natAbs < 2 ^ 64 ∧ Q (.int (i * 2 ^ j.toNat))
  | _, _, _ => False
def andD : D → D → (D → Prop) → Prop
  | .int i, .int j, Q => Q (.int (Builtin.bitAnd i j))
  | _, _, _ => False
def xorD : D → D → (D → Prop) → Prop
  | .int i, .int j, Q => Q (.int (Builtin.bitXor i j))
  | _, _, _ => False
def negD : D → (D → Prop) → Prop
  | .int i, Q => Q (.int (-i))
  | _, _ => False
theorem o_add : OpR X (binaryOp .Add) (LO2 B X.kn addD) := opR_by fun v u H Q ⟨F, x, y, Qd, e, dk, r1, r2, q, k⟩ => by
  unfold addD at q
  split at q
  · exact ⟨_, op_add, _, _, r1.int, r2.int, k.here e dk q (.int _)⟩
  · exact ⟨_, op_add_str, _, _, r1.str, r2.str, q.1, k.here e dk q.2 (.str _)⟩
  · obtain ⟨a, vs, rfl, f1, h1, s1⟩ := r1.tup e
    obtain ⟨b, us, rfl, f2, h2, s2⟩ := r2.tup e
    refine ⟨_, op_catA, a, b, vs, us, rfl, rfl, h1, h2, by rw [s1.length, s2.length]; exact q.1, ?_⟩
    have z := s1.append s2
    refine ⟨fun w => ?_, fun w1 w => ?_, fun w1 w2 p hp => ?_⟩
    · subst w
      cases s1
      exact k.here e dk q.2 (.tup f2 (by simpa using s2))
    · subst w
      cases s2
      exact k.here e dk q.2 (.tup f1 (by simpa using s1))
    · exact k.frz e dk q.2 hp (.tup (SqT.of upd_same) (z.mono (same_new (e.free hp))))
  · obtain ⟨a, vs, rfl, h1, s1⟩ := r1.lst e
    obtain ⟨b, us, rfl, h2, s2⟩ := r2.lst e
    exact ⟨_, op_cat, a, b, vs, us, rfl, rfl, h1, h2, by rw [s1.length, s2.length]; exact q.1, fun p hp => k.frz e dk q.2 hp (.lst upd_same ((s1.append s2).mono (same_new (e.free hp))))⟩
  · exact q.elim
end
end ND

/-! ND3: operators, comparisons, truth, displays, items, slices -/
namespace ND
open PySem PySem.Spec L2
section
variable {B : Bs} {X : Cx} {e a b c : Expr} {es : List Expr} {f fa fb fc : GE} {pos : Pos}
theorem o_sub : OpR X (binaryOp .Sub) (LO2 B X.kn subD) := opR_by fun v u H Q ⟨F, x, y, Qd, e, dk, r1, r2, q, k⟩ => by
  unfold subD at q
  split at q
  · exact ⟨_, op_sub, _, _, r1.int, r2.int, k.here e dk q (.int _)⟩
  · exact q.elim
theorem Reps.rep {K : Kn} {F : Hp} {vs : List V} {ds : List D} (h : Reps K F vs ds) : ∀ n : Nat, Reps K F (List.replicate n vs).flatten (List.replicate n ds).flatten
  | 0 => .nil
  | n + 1 => by
    rw [List.replicate_succ, List.replicate_succ, List.flatten_cons, List.flatten_cons]
    exact h.append (Reps.rep h n)
theorem o_mul : OpR X (binaryOp .Mult) (LO2 B X.kn mulD) := opR_by fun v u H Q ⟨F, x, y, Qd, e, dk, r1, r2, q, k⟩ => by
  unfold mulD at q
  split at q
  · exact ⟨_, op_mulW, _, _, r1.int, r2.int, q.1, k.here e dk q.2 (.int _)⟩
  · obtain ⟨a, vs, rfl, h1, s1⟩ := r1.lst e
    obtain ⟨q0, q1, q2, q3⟩ := q
    have := s1.length
    exact ⟨_, op_rep, a, _, vs, rfl, r2.int, h1, by omega, q1, by rw [this]; exact q2, fun p hp => k.frz e dk q3 hp (.lst upd_same ((s1.rep _).mono (same_new (e.free hp))))⟩
  · exact q.elim
theorem o_fdiv : OpR X (binaryOp .FloorDiv) (LO2 B X.kn fdivD) := opR_by fun v u H Q ⟨F, x, y, Qd, e, dk, r1, r2, q, k⟩ => by
  unfold fdivD at q
  split at q
  · exact ⟨_, op_fdivW, _, _, r1.int, r2.int, ⟨q.1, q.2.1⟩, k.here e dk q.2.2 (.int _)⟩
  · exact q.elim
theorem o_mod : OpR X (binaryOp .Mod) (LO2 B X.kn modD) := opR_by fun v u H Q ⟨F, x, y, Qd, e, dk, r1, r2, q, k⟩ => by
  unfold modD at q
  split at q
  · exact ⟨_, op_mod, _, _, r1.int, r2.int, q.1, k.here e dk q.2 (.int _)⟩
  · exact q.elim
theorem o_pow : OpR X (binaryOp .Pow) (LO2 B X.kn powD) := opR_by fun v u H Q ⟨F, x, y, Qd, e, dk, r1, r2, q, k⟩ => by
  unfold powD at q
  split at q
  · exact ⟨_, op_pow, _, _, r1.int, r2.int, ⟨q.1, q.2.1, q.2.2.1⟩, k.here e dk q.2.2.2 (.int _)⟩
  · exact q.elim
theorem o_shl : OpR X (binaryOp .LShift) (LO2 B X.kn shlD) := opR_by fun v u H Q ⟨F, x, y, Qd, e, dk, r1, r2, q, k⟩ => by
  unfold shlD at q
  split at q
  · exact ⟨_, op_shl, _, _, r1.int, r2.int, ⟨q.1, q.2.1, q.2.2.1⟩, k.here e dk q.2.2.2 (.int _)⟩
  · exact q.elim
theorem o_and : OpR X (binaryOp .BitAnd) (LO2 B X.kn andD) := opR_by fun v u H Q ⟨F, x, y, Qd, e, dk, r1, r2, q, k⟩ => by
  unfold andD at q
  split at q
  · exact ⟨_, op_and, _, _, r1.int, r2.int, k.here e dk q (.int _)⟩
  · exact q.elim
theorem o_xor : OpR X (binaryOp .BitXor) (LO2 B X.kn xorD) := opR_by fun v u H Q ⟨F, x, y, Qd, e, dk, r1, r2, q, k⟩ => by
  unfold xorD at q
  split at q
  · exact ⟨_, op_xor, _, _, r1.int, r2.int, k.here e dk q (.int _)⟩
  · exact q.elim
theorem o_neg : UnR X (unaryOp .USub) (LO1 B X.kn negD) := unR_by fun v H Q ⟨F, x, Qd, e, dk, r1, q, k⟩ => by
  unfold negD at q
  split at q
  · exact ⟨_, un_neg, _, r1.int, k.here e dk q (.int _)⟩
  · exact q.elim

/-! ### plain data and their equality -/
mutual
def toPy : D → PyData
  | .non => .none
  | .bl b => .bool b
  | .int i => .int i
  | .str x => .str x
  | .tup xs => .tuple (toPys xs)
  | .lst xs => .list (toPys xs)
  | .dic _ => .none
  | .obj _ _ => .none
  | .opq _ => .none
def toPys : List D → List PyData
  | [] => []
  | x :: xs => toPy x :: toPys xs
end
/-! plain data: no dict, no object within, at most n deep -/
mutual
def pl : Nat → D → Bool
  | _, .non => true
  | _, .bl _ => true
  | _, .int _ => true
  | _, .str x => PyData.strOk x
  | 0, .tup _ => false
  | 0, .lst _ => false
  | n + 1, .tup xs => pls n xs
  | n + 1, .lst xs => pls n xs
  | _, .dic _ => false
  | _, .obj _ _ => false
  | _, .opq _ => false
def pls : Nat → List D → Bool
  | _, [] => true
  | n, x :: xs => pl n x && pls n xs
end
theorem toPys_map : ∀ xs : List D, toPys xs = xs.map toPy
  | [] => by simp [toPys]
  | x :: xs => by simp [toPys, toPys_map xs]
theorem pls_all (n : Nat) : ∀ xs : List D, pls n xs = xs.all (pl n)
  | [] => by simp [pls]
  | x :: xs => by simp [pls, pls_all n xs]
mutual
theorem pl_shape : ∀ (n : Nat) (d : D), pl n d = true → (toPy d).canLay0 = true ∧ (toPy d).depth ≤ n
  | n, .non, _ => by simp [toPy, PyData.canLay0, PyData.depth]
  | n, .bl b, _ => by simp [toPy, PyData.canLay0, PyData.depth]
  | n, .int b, _ => by simp [toPy, PyData.canLay0, PyData.depth]
  | n, .str x, h => by
    simp only [pl] at h
    simp [toPy, PyData.canLay0, PyData.depth, h]
  | 0, .tup xs, h => by simp [pl] at h
  | 0, .lst xs, h => by simp [pl] at h
  | n + 1, .tup xs, h => by
    simp only [pl] at h
    obtain ⟨h1, h2⟩ := pls_shape n xs h
    simp only [toPy, PyData.canLay0, PyData.depth]
    exact ⟨h1, by omega⟩
  | n + 1, .lst xs, h => by
    simp only [pl] at h
    obtain ⟨h1, h2⟩ := pls_shape n xs h
    simp only [toPy, PyData.canLay0, PyData.depth]
    exact ⟨h1, by omega⟩
  | n, .dic _, h => by simp [pl] at h
  | n, .obj _ _, h => by simp [pl] at h
  | n, .opq _, h => by simp [pl] at h
theorem pls_shape : ∀ (n : Nat) (d : List D), pls n d = true → PyData.canLayAll0 (toPys d) = true ∧ PyData.depthAll (toPys d) ≤ n
  | n, [], _ => by simp [toPys, PyData.canLayAll0, PyData.depthAll]
  | n, x :: xs, h => by
    simp only [pls, Bool.and_eq_true] at h
    obtain ⟨h1, h2⟩ := pl_shape n x h.1
    obtain ⟨h3, h4⟩ := pls_shape n xs h.2
    simp only [toPys, PyData.canLayAll0, PyData.depthAll, Bool.and_eq_true]
    exact ⟨⟨h1, h3⟩, by omega⟩
end
theorem pl_shaped {d : D} (h : pl 64 d = true) : SeqAt.shaped (toPy d) = true := by
  obtain ⟨h1, h2⟩ := pl_shape 64 d h
  show ((toPy d).canLay0 && decide ((toPy d).depth ≤ 64)) = true
  rw [h1, decide_eq_true h2]
  rfl
mutual
theorem Rep.dp {K : Kn} {F H : Hp} (e : Same F H) : ∀ (n : Nat) (d : D) (v : V), pl n d = true → Rep K F v d → Dp K.K H v (toPy d)
  | _, .non, _, _, h => by cases h; simp only [toPy]; exact .non
  | _, .bl _, _, _, h => by cases h; simp only [toPy]; exact .bl _
  | _, .int _, _, _, h => by cases h; simp only [toPy]; exact .int _
  | _, .str _, _, _, h => by cases h; simp only [toPy]; exact .str _
  | 0, .tup _, _, p, h => by simp [pl] at p
  | 0, .lst _, _, p, h => by simp [pl] at p
  | n + 1, .tup xs, _, p, h => by
    simp only [pl] at p
    cases h with
    | tup h r =>
      simp only [toPy]
      exact .tup (same_t e h) (Reps.dp e n xs _ p r)
  | n + 1, .lst xs, _, p, h => by
    simp only [pl] at p
    cases h with
    | lst h r =>
      simp only [toPy]
      exact .lst (SqL.of (e _ _ h)) (Reps.dp e n xs _ p r)
  | _, .dic _, _, p, _ => by simp [pl] at p
  | _, .obj _ _, _, p, _ => by simp [pl] at p
  | _, .opq _, _, p, _ => by simp [pl] at p
theorem Reps.dp {K : Kn} {F H : Hp} (e : Same F H) : ∀ (n : Nat) (d : List D) (v : List V), pls n d = true → Reps K F v d → DpAll K.K H v (toPys d)
  | _, [], _, _, h => by cases h; simp only [toPys]; exact .nil
  | n, x :: xs, _, p, h => by
    simp only [pls, Bool.and_eq_true] at p
    cases h with
    | cons h1 h2 =>
      simp only [toPys]
      exact .cons (Rep.dp e n x _ p.1 h1) (Reps.dp e n xs _ p.2 h2)
end
theorem RepB.dp {W : WD} {K : Kn} {F H : Hp} {v : V} {d : D} (h : RepB W K F H v d) (e : Same F H) (p : pl 64 d = true) : Dp K.K H v (toPy d) := by
  rcases h with h | ⟨a, ds, vs, rfl, rfl, _, h, r⟩ | ⟨a, ds, vs, rfl, rfl, _, h, r⟩
  · exact h.dp e 64 d v p
  · simp only [pl] at p
    simp only [toPy]
    exact .lst (SqL.of h) (Reps.dp e 63 ds _ p r)
  · simp [pl] at p
/-- Python's == on plain data -/
def eqb (x y : D) : Bool := PyData.eqv (toPy x) (toPy y)
def eqD : D → D → (D → Prop) → Prop
  | .str a, .str b, Q => Q (.bl (decide (a = b)))
  | x, y, Q => pl 64 x = true ∧ pl 64 y = true ∧ Q (.bl (eqb x y))
def neD : D → D → (D → Prop) → Prop
  | .str a, .str b, Q => Q (.bl (!decide (a = b)))
  | x, y, Q => pl 64 x = true ∧ pl 64 y = true ∧ Q (.bl (!eqb x y))
theorem vstr {a b : Str} : decide (V.str a = V.str b) = decide (a = b) := by
  by_cases h : a = b
  · subst h; simp
  · rw [decide_eq_false h, decide_eq_false fun z => h (V.str.inj z)]
theorem o_eq (hu : X.A.units + 64 < cLine) : OpR X (compareOp .Eq) (LO2 B X.kn eqD) := opR_by fun v u H Q ⟨F, x, y, Qd, e, dk, r1, r2, q, k⟩ => by
  unfold eqD at q
  split at q
  · refine ⟨_, op_eq, ?_, ?_⟩
    · rw [r1.str, r2.str]; rfl
    · rw [r1.str, r2.str, vstr]; exact k.here e dk q (.bl _)
  · exact ⟨_, op_eqD hu, _, _, r1.dp e q.1, r2.dp e q.2.1, pl_shaped q.1, pl_shaped q.2.1, k.here e dk q.2.2 (.bl _)⟩
theorem o_ne (hu : X.A.units + 64 < cLine) : OpR X (compareOp .NotEq) (LO2 B X.kn neD) := opR_by fun v u H Q ⟨F, x, y, Qd, e, dk, r1, r2, q, k⟩ => by
  unfold neD at q
  split at q
  · refine ⟨_, op_ne, ?_, ?_⟩
    · rw [r1.str, r2.str]; rfl
    · rw [r1.str, r2.str, vstr]; exact k.here e dk q (.bl _)
  · exact ⟨_, op_neD hu, _, _, r1.dp e q.1, r2.dp e q.2.1, pl_shaped q.1, pl_shaped q.2.1, k.here e dk q.2.2 (.bl _)⟩
/-- in: plain data in a tuple or a list of such; a sign in a text -/
def inb (x : D) (ys : List D) : Bool := ys.any fun z => eqb z x
def inD (neg : Bool) : D → D → (D → Prop) → Prop
  | x, .tup ys, Q => pl 64 x = true ∧ pl 64 (.tup ys) = true ∧ Q (.bl (if neg then !inb x ys else inb x ys))
  | x, .lst ys, Q => pl 64 x = true ∧ pl 64 (.lst ys) = true ∧ Q (.bl (if neg then !inb x ys else inb x ys))
  | .str x, .str y, Q => ∃ c, x = ⟨#[c]⟩ ∧ Q (.bl (if neg then !decide (c ∈ y.cps.toList) else decide (c ∈ y.cps.toList)))
  | _, _, _ => False
theorem any_toPy (x : D) : ∀ ys : List D, ((toPys ys).any fun z => PyData.eqv z (toPy x)) = inb x ys
  | [] => by simp [toPys, inb]
  | y :: ys => by
    have := any_toPy x ys
    simp only [toPys, List.any_cons, this, inb, eqb]
def rInT (K : PySem.W.Frag) (neg : Bool) : R2 := fun x y H Q => ∃ d ds, Dp K H x d ∧ Dp K H y (.tuple ds) ∧ SeqAt.shaped d = true ∧ SeqAt.shaped (.tuple ds) = true ∧ Q (.bl (if neg then !(ds.any fun z => PyData.eqv z d) else ds.any fun z => PyData.eqv z d)) H
theorem op_inTup (hu : X.A.units + 65 < cLine) : OpR X (compareOp .In) (rInT X.K false) := fun _ _ _ H one all v u _ I isOne isAll ⟨d, ds, dOne, dAll, okOne, okAll, q⟩ => by
  obtain ⟨⟨_, readsOne⟩, _, readsAll⟩ := And.intro (Dp.reads I d one v dOne isOne) (Dp.reads I (.tuple ds) all u dAll isAll)
  exact SeqAt.in_tuple_reads readsAll readsOne (SeqAt.canLay_of_shaped okAll) (SeqAt.canLay_of_shaped okOne) (PyProof.Rows.room_in_shaped okOne hu) ⟨.bl _, H, I, rfl, q⟩
theorem op_notInTup (hu : X.A.units + 65 < cLine) : OpR X (compareOp .NotIn) (rInT X.K true) := fun _ _ _ H one all v u _ I isOne isAll ⟨d, ds, dOne, dAll, okOne, okAll, q⟩ => by
  obtain ⟨⟨_, readsOne⟩, _, readsAll⟩ := And.intro (Dp.reads I d one v dOne isOne) (Dp.reads I (.tuple ds) all u dAll isAll)
  exact SeqAt.notIn_tuple_reads readsAll readsOne (SeqAt.canLay_of_shaped okAll) (SeqAt.canLay_of_shaped okOne) (PyProof.Rows.room_in_shaped okOne hu) ⟨.bl _, H, I, rfl, q⟩
theorem o_in (hu : X.A.units + 65 < cLine) : OpR X (compareOp .In) (LO2 B X.kn (inD false)) := opR_by fun v u H Q ⟨F, x, y, Qd, e, dk, r1, r2, q, k⟩ => by
  unfold inD at q
  split at q
  · have d2 := r2.dp e q.2.1
    have s2 := pl_shaped q.2.1
    simp only [toPy] at d2 s2
    exact ⟨_, op_inTup hu, _, _, r1.dp e q.1, d2, pl_shaped q.1, s2, by rw [any_toPy]; exact k.here e dk q.2.2 (.bl _)⟩
  · have d2 := r2.dp e q.2.1
    have s2 := pl_shaped q.2.1
    simp only [toPy] at d2 s2
    exact ⟨_, op_inD hu, _, _, r1.dp e q.1, d2, pl_shaped q.1, s2, by rw [any_toPy]; exact k.here e dk q.2.2 (.bl _)⟩
  · obtain ⟨c, rfl, q⟩ := q
    exact ⟨_, op_in_sign, c, _, r1.str, r2.str, k.here e dk q (.bl _)⟩
  · exact q.elim
theorem o_notIn (hu : X.A.units + 65 < cLine) : OpR X (compareOp .NotIn) (LO2 B X.kn (inD true)) := opR_by fun v u H Q ⟨F, x, y, Qd, e, dk, r1, r2, q, k⟩ => by
  unfold inD at q
  split at q
  · have d2 := r2.dp e q.2.1
    have s2 := pl_shaped q.2.1
    simp only [toPy] at d2 s2
    exact ⟨_, op_notInTup hu, _, _, r1.dp e q.1, d2, pl_shaped q.1, s2, by rw [any_toPy]; exact k.here e dk q.2.2 (.bl _)⟩
  · have d2 := r2.dp e q.2.1
    have s2 := pl_shaped q.2.1
    simp only [toPy] at d2 s2
    exact ⟨_, op_notInD hu, _, _, r1.dp e q.1, d2, pl_shaped q.1, s2, by rw [any_toPy]; exact k.here e dk q.2.2 (.bl _)⟩
  · obtain ⟨c, rfl, q⟩ := q
    exact ⟨_, op_notIn_sign, c, _, r1.str, r2.str, k.here e dk q (.bl _)⟩
  · exact q.elim

/-- is: with None, two bools -/
def isD (neg : Bool) : D → D → (D → Prop) → Prop
  | .opq _, _, _ => False
  | .non, .non, Q => Q (.bl (!neg))
  | .bl a, .bl b, Q => Q (.bl (if neg then !decide (a = b) else decide (a = b)))
  | _, .non, Q => Q (.bl neg)
  | _, _, _ => False
theorem rep_ne_non {K : Kn} {W : WD} {F H : Hp} {v : V} {d : D} (h : RepB W K F H v d) (n : d ≠ .non) (n2 : ∀ u, d ≠ .opq u) : decide (v = V.non) = false := by
  refine decide_eq_false fun z => ?_
  subst z
  rcases h with h | ⟨a, ds, vs, e, _⟩ | ⟨a, ds, vs, e, _⟩
  · cases h with
    | non => exact n rfl
    | opq => exact n2 _ rfl
  · cases e
  · cases e
theorem o_is : OpR X (compareOp .Is) (LO2 B X.kn (isD false)) := opR_by fun v u H Q ⟨F, x, y, Qd, e, dk, r1, r2, q, k⟩ => by
  unfold isD at q
  split at q
  · exact q.elim
  · exact ⟨_, op_isN, r2.non, by rw [r1.non]; exact k.here e dk q (.bl _)⟩
  · exact ⟨_, op_isBl, _, _, r1.bl, r2.bl, k.here e dk q (.bl _)⟩
  · exact ⟨_, op_isN, r2.non, by rw [rep_ne_non r1 (by assumption) (by assumption)]; exact k.here e dk q (.bl _)⟩
  · exact q.elim
theorem o_isNot : OpR X (compareOp .IsNot) (LO2 B X.kn (isD true)) := opR_by fun v u H Q ⟨F, x, y, Qd, e, dk, r1, r2, q, k⟩ => by
  unfold isD at q
  split at q
  · exact q.elim
  · exact ⟨_, op_notN, r2.non, by rw [r1.non]; exact k.here e dk q (.bl _)⟩
  · exact ⟨_, op_notBl, _, _, r1.bl, r2.bl, k.here e dk q (.bl _)⟩
  · exact ⟨_, op_notN, r2.non, by rw [rep_ne_non r1 (by assumption) (by assumption)]; exact k.here e dk q (.bl _)⟩
  · exact q.elim
def ltD : D → D → (D → Prop) → Prop
  | .int i, .int j, Q => Q (.bl (decide (i < j)))
  | .str i, .str j, Q => Q (.bl (decide (i.cps.toList < j.cps.toList)))
  | _, _, _ => False
def leD : D → D → (D → Prop) → Prop
  | .int i, .int j, Q => Q (.bl (decide (i ≤ j)))
  | .str i, .str j, Q => Q (.bl (!decide (j.cps.toList < i.cps.toList)))
  | _, _, _ => False
def gtD : D → D → (D → Prop) → Prop
  | .int i, .int j, Q => Q (.bl (decide (j < i)))
  | .str i, .str j, Q => Q (.bl (decide (j.cps.toList < i.cps.toList)))
  | _, _, _ => False
def geD : D → D → (D → Prop) → Prop
  | .int i, .int j, Q => Q (.bl (decide (j ≤ i)))
  | .str i, .str j, Q => Q (.bl (!decide (i.cps.toList < j.cps.toList)))
  | _, _, _ => False
theorem o_lt : OpR X (compareOp .Lt) (LO2 B X.kn ltD) := opR_by fun v u H Q ⟨F, x, y, Qd, e, dk, r1, r2, q, k⟩ => by
  unfold ltD at q
  split at q
  · exact ⟨_, op_lt, _, _, r1.int, r2.int, k.here e dk q (.bl _)⟩
  · exact ⟨_, op_lt_str, _, _, r1.str, r2.str, k.here e dk q (.bl _)⟩
  · exact q.elim
theorem o_le : OpR X (compareOp .LtE) (LO2 B X.kn leD) := opR_by fun v u H Q ⟨F, x, y, Qd, e, dk, r1, r2, q, k⟩ => by
  unfold leD at q
  split at q
  · exact ⟨_, op_le, _, _, r1.int, r2.int, k.here e dk q (.bl _)⟩
  · exact ⟨_, op_le_str, _, _, r1.str, r2.str, k.here e dk q (.bl _)⟩
  · exact q.elim
theorem o_gt : OpR X (compareOp .Gt) (LO2 B X.kn gtD) := opR_by fun v u H Q ⟨F, x, y, Qd, e, dk, r1, r2, q, k⟩ => by
  unfold gtD at q
  split at q
  · exact ⟨_, op_gt, _, _, r1.int, r2.int, k.here e dk q (.bl _)⟩
  · exact ⟨_, op_gt_str, _, _, r1.str, r2.str, k.here e dk q (.bl _)⟩
  · exact q.elim
theorem o_ge : OpR X (compareOp .GtE) (LO2 B X.kn geD) := opR_by fun v u H Q ⟨F, x, y, Qd, e, dk, r1, r2, q, k⟩ => by
  unfold geD at q
  split at q
  · exact ⟨_, op_ge, _, _, r1.int, r2.int, k.here e dk q (.bl _)⟩
  · exact ⟨_, op_ge_str, _, _, r1.str, r2.str, k.here e dk q (.bl _)⟩
  · exact q.elim

/-! ### comparisons as values and tests; truth; and, or, not -/
variable {g g' : D → D → (D → Prop) → Prop} {ft fu : GT} {rest : List Expr}
theorem ed_cmp {op : CmpOp} (ho : OpR X (compareOp op) (LO2 B X.kn g)) (ha : BD B X a fa) (hb : BD B X b fb) (hm : behindInMarks op b = false) : ED B X (.Compare a [op] [b] pos) (gBin g fa fb) :=
  ⟨pe_imp (pe_cmpR ho ha.run hb.run hm) fun s H Q ⟨σ, F, Qd, R, q, k⟩ => lo2_of R q k⟩
/-- a value that has to be a bool, as a test -/
def isBl (d : D) (Q : Bool → Prop) : Prop := ∃ b, d = .bl b ∧ Q b
@[simp] theorem isBl_b (b : Bool) (Q : Bool → Prop) : isBl (.bl b) Q ↔ Q b := ⟨fun ⟨_, e, q⟩ => by cases e; exact q, fun q => ⟨b, rfl, q⟩⟩
@[simp] def gB (f : GE) (σ : List SV) (Q : Bool → Prop) : Prop := f σ fun d => isBl d Q
theorem fin_b {K : Kn} {F H : Hp} {Qd : Bool → Prop} {Q : Bool → Hp → Prop} (k : FinT B F H Qd Q) : Fin B K F H (fun d => ∃ b, d = .bl b ∧ Qd b) fun x H' => ∃ b, x = .bl b ∧ Q b H' := fun d ⟨b, e, q⟩ F' H' v g dk r => by
  subst e
  cases r
  exact ⟨b, rfl, k b q F' H' g dk⟩
theorem td_cmp {op : CmpOp} (ho : OpR X (compareOp op) (LO2 B X.kn g)) (ha : BD B X a fa) (hb : BD B X b fb) (hm : behindInMarks op b = false) : TD B X (.Compare a [op] [b] pos) (gB (gBin g fa fb)) :=
  ⟨pt_imp (pt_cmpR ho ha.run hb.run hm) fun s H Q ⟨σ, F, Qd, R, q, k⟩ => lo2_of R q (fin_b k)⟩
@[simp] def gChain (g g' : D → D → (D → Prop) → Prop) (fa fb fc : GE) (σ : List SV) (Q : D → Prop) : Prop := fa σ fun x => fb σ fun y => g x y fun r => isBl r fun b => if b = true then fc σ fun z => g' y z Q else Q (.bl false)
theorem lo_chain {K : Kn} {s : L2.St} {σ : List SV} {F H : Hp} {Qd : D → Prop} {Q : VK} (R : Rel B K σ s F H) (q : gChain g g' fa fb fc σ Qd) (k : Fin B K F H Qd Q) : tChain (LO2 B K g) (LO2 B K g') (LB B K fa) (LB B K fb) (LB B K fc) s H Q := by
  refine lb_two (R2 := fun x y H2 => LO2 B K g x y H2 fun z H3 => ∃ k, z = .bl k ∧ (if k = true then LB B K fc s H3 fun w' H4 => LO2 B K g' y w' H4 Q else Q (.bl false) H3)) R q fun x y F1 H1 v u qq g1 dk r1 r2 => ?_
  refine ⟨F1, x, y, _, g1.fh, dk, r1, r2, qq, fun d ⟨b, e, q3⟩ F2 H2 w g2 dk2 r3 => ?_⟩
  subst e
  cases r3
  refine ⟨b, rfl, ?_⟩
  cases b with
  | false => exact k _ q3 F2 H2 _ (g1.trans g2) dk2 (.bl false)
  | true => exact ⟨σ, F2, _, R.grow (g1.trans g2) dk2, q3, fun z qz F3 H3 w3 g3 dk3 r4 => ⟨F3, y, z, Qd, g3.fh, dk3, r2.grow (g2.trans g3), r4, qz, k.more ((g1.trans g2).trans g3)⟩⟩
theorem ed_chain {op op' : CmpOp} (ho : OpR X (compareOp op) (LO2 B X.kn g)) (ho' : OpR X (compareOp op') (LO2 B X.kn g')) (ha : BD B X a fa) (hb : BD B X b fb) (hc : BD B X c fc)
    (hm : lastMarks [op, op'] [b, c] = false := by with_unfolding_all rfl) : ED B X (.Compare a [op, op'] [b, c] pos) (gChain g g' fa fb fc) :=
  ⟨pe_imp (pe_chain ho ho' ha.run hb.run hc.run hm) fun s H Q ⟨σ, F, Qd, R, q, k⟩ => lo_chain R q k⟩
theorem td_chain {op op' : CmpOp} (ho : OpR X (compareOp op) (LO2 B X.kn g)) (ho' : OpR X (compareOp op') (LO2 B X.kn g')) (ha : BD B X a fa) (hb : BD B X b fb) (hc : BD B X c fc)
    (hm : lastMarks [op, op'] [b, c] = false := by with_unfolding_all rfl) : TD B X (.Compare a [op, op'] [b, c] pos) (gB (gChain g g' fa fb fc)) :=
  ⟨pt_imp (pt_chain ho ho' ha.run hb.run hc.run hm) fun s H Q ⟨σ, F, Qd, R, q, k⟩ => lo_chain R q (fin_b k)⟩
/-- the truth of data -/
def truthD : D → (Bool → Prop) → Prop
  | .non, Q => Q false
  | .bl b, Q => Q b
  | .int i, Q => Q (i != 0)
  | .str x, Q => x.length ≤ sizeLine ∧ Q ((x.length : Int) != 0)
  | .tup xs, Q => Q (!xs.isEmpty)
  | .lst xs, Q => Q (!xs.isEmpty)
  | .dic kvs, Q => Q (!kvs.isEmpty)
  | _, _ => False
theorem Reps.isEmpty {K : Kn} {F : Hp} {vs : List V} {ds : List D} (h : Reps K F vs ds) : vs.isEmpty = ds.isEmpty := by cases h <;> rfl
theorem RepKs.isEmpty {K : Kn} {F : Hp} {vs : List (Key × V)} {ds : List (Key × D)} (h : RepKs K F vs ds) : vs.isEmpty = ds.isEmpty := by cases h <;> rfl
theorem truth_of {K : Kn} {W : WD} {F H : Hp} {v : V} {d : D} {Qd : Bool → Prop} (r : RepB W K F H v d) (e : Same F H) (q : truthD d Qd) : ∃ b, TruV K.K v H b ∧ Qd b := by
  unfold truthD at q
  split at q
  · rw [r.non]; exact ⟨_, rfl, q⟩
  · rw [r.bl]; exact ⟨_, rfl, q⟩
  · rw [r.int]; exact ⟨_, rfl, q⟩
  · rw [r.str]; exact ⟨_, ⟨q.1, rfl⟩, q.2⟩
  · obtain ⟨a, vs, rfl, _, h, s⟩ := r.tup e
    exact ⟨_, .inr (.inl ⟨vs, h, by rw [s.isEmpty]⟩), q⟩
  · obtain ⟨a, vs, rfl, h, s⟩ := r.lst e
    exact ⟨_, .inl ⟨vs, SqL.of h, by rw [s.isEmpty]⟩, q⟩
  · obtain ⟨a, vs, rfl, h, s⟩ := r.dic e
    exact ⟨_, .inr (.inr ⟨vs, h, by rw [s.isEmpty]⟩), q⟩
  · exact q.elim
@[simp] def gTru (f : GE) (σ : List SV) (Q : Bool → Prop) : Prop := f σ fun d => truthD d Q
theorem td_val (ha : BD B X a fa) (he : ∀ whole, isTrue a X.env whole = (do let v ← whole; standAt a.pos; holding [v] (truthy v)) := by intro _; rfl) : TD B X a (gTru fa) :=
  ⟨pt_imp (pt_truth ha.run he) fun s H Q ⟨σ, F, Qd, R, q, k⟩ => ⟨σ, F, _, R, q, fun d qd F' H' v g dk r => by
    obtain ⟨b, h1, h2⟩ := truth_of r g.fh qd
    exact ⟨b, h1, k b h2 F' H' g dk⟩⟩⟩
@[simp] def gNotT (ft : GT) (σ : List SV) (Q : Bool → Prop) : Prop := ft σ fun b => Q (!b)
theorem td_not (ha : TD B X a ft) : TD B X (.UnaryOp .Not a pos) (gNotT ft) := ⟨pt_imp (pt_not ha.run) fun s H Q ⟨σ, F, Qd, R, q, k⟩ => ⟨σ, F, _, R, q, fun b qb F' H' g dk => k _ qb F' H' g dk⟩⟩
@[simp] def gAndT (ft fu : GT) (σ : List SV) (Q : Bool → Prop) : Prop := ft σ fun b => if b = true then fu σ Q else Q false
@[simp] def gOrT (ft fu : GT) (σ : List SV) (Q : Bool → Prop) : Prop := ft σ fun b => if b = true then Q true else fu σ Q
theorem wd_and1 (ha : TD B X a ft) : WDd B X (.BoolOp .And [a] pos) ft := ⟨pw_and1 ha.run⟩
theorem wd_or1 (ha : TD B X a ft) : WDd B X (.BoolOp .Or [a] pos) ft := ⟨pw_or1 ha.run⟩
theorem wd_and (ha : TD B X a ft) (hb : WDd B X (.BoolOp .And (b :: rest) pos) fu) : WDd B X (.BoolOp .And (a :: b :: rest) pos) (gAndT ft fu) :=
  ⟨pw_imp (pw_and ha.run hb.run) fun s H Q ⟨σ, F, Qd, R, q, k⟩ => ⟨σ, F, _, R, q, fun c qc F' H' g dk => by
    cases c with
    | true => exact ⟨σ, F', Qd, R.grow g dk, qc, k.more g⟩
    | false => exact k _ qc F' H' g dk⟩⟩
theorem wd_or (ha : TD B X a ft) (hb : WDd B X (.BoolOp .Or (b :: rest) pos) fu) : WDd B X (.BoolOp .Or (a :: b :: rest) pos) (gOrT ft fu) :=
  ⟨pw_imp (pw_or ha.run hb.run) fun s H Q ⟨σ, F, Qd, R, q, k⟩ => ⟨σ, F, _, R, q, fun c qc F' H' g dk => by
    cases c with
    | false => exact ⟨σ, F', Qd, R.grow g dk, qc, k.more g⟩
    | true => exact k _ qc F' H' g dk⟩⟩
theorem WDd.t (h : WDd B X e ft) : TD B X e ft := ⟨h.run.pt⟩
/-- as values -/
@[simp] def gAnd (fa fb : GE) (σ : List SV) (Q : D → Prop) : Prop := fa σ fun x => truthD x fun b => if b = true then fb σ Q else Q x
@[simp] def gOr (fa fb : GE) (σ : List SV) (Q : D → Prop) : Prop := fa σ fun x => truthD x fun b => if b = true then Q x else fb σ Q
@[simp] def gNot (fa : GE) (σ : List SV) (Q : D → Prop) : Prop := fa σ fun x => truthD x fun b => Q (.bl (!b))
theorem ed_one {op : BoolOp} (h : ED B X a fa) : ED B X (.BoolOp op [a] pos) fa := ⟨pe_one h.run⟩
theorem ed_and (ha : ED B X a fa) (hb : ED B X (.BoolOp .And (b :: rest) pos) fb) : ED B X (.BoolOp .And (a :: b :: rest) pos) (gAnd fa fb) :=
  ⟨pe_imp (pe_andT ha.run hb.run) fun s H Q ⟨σ, F, Qd, R, q, k⟩ => ⟨σ, F, _, R, q, fun d qd F' H' v g dk r => by
    obtain ⟨c, h1, h2⟩ := truth_of (W := B.W) (.inl r) g.fh qd
    refine ⟨c, h1, ?_⟩
    cases c with
    | true => exact ⟨σ, F', Qd, R.grow g dk, h2, k.more g⟩
    | false => exact k _ h2 F' H' v g dk r⟩⟩
theorem ed_or (ha : ED B X a fa) (hb : ED B X (.BoolOp .Or (b :: rest) pos) fb) : ED B X (.BoolOp .Or (a :: b :: rest) pos) (gOr fa fb) :=
  ⟨pe_imp (pe_orT ha.run hb.run) fun s H Q ⟨σ, F, Qd, R, q, k⟩ => ⟨σ, F, _, R, q, fun d qd F' H' v g dk r => by
    obtain ⟨c, h1, h2⟩ := truth_of (W := B.W) (.inl r) g.fh qd
    refine ⟨c, h1, ?_⟩
    cases c with
    | false => exact ⟨σ, F', Qd, R.grow g dk, h2, k.more g⟩
    | true => exact k _ h2 F' H' v g dk r⟩⟩
theorem ed_not (ha : BD B X a fa) : ED B X (.UnaryOp .Not a pos) (gNot fa) :=
  ⟨pe_imp (pe_notT ha.run) fun s H Q ⟨σ, F, Qd, R, q, k⟩ => ⟨σ, F, _, R, q, fun d qd F' H' v g dk r => by
    obtain ⟨c, h1, h2⟩ := truth_of r g.fh qd
    exact ⟨c, h1, k _ h2 F' H' _ g dk (.bl _)⟩⟩⟩
@[simp] def gIf (ft : GT) (fa fb : GE) (σ : List SV) (Q : D → Prop) : Prop := ft σ fun b => if b = true then fa σ Q else fb σ Q
theorem ed_if (hc : TD B X c ft) (ha : ED B X a fa) (hb : ED B X b fb) : ED B X (.IfExp c a b pos) (gIf ft fa fb) :=
  ⟨pe_imp (pe_ifExp hc.run ha.run hb.run) fun s H Q ⟨σ, F, Qd, R, q, k⟩ => ⟨σ, F, _, R, q, fun d qd F' H' g dk => by
    cases d with
    | true => exact ⟨σ, F', Qd, R.grow g dk, qd, k.more g⟩
    | false => exact ⟨σ, F', Qd, R.grow g dk, qd, k.more g⟩⟩⟩
/-- borrowed either way -/
theorem bd_if (hc : TD B X c ft) (ha : BD B X a fa) (hb : BD B X b fb) : BD B X (.IfExp c a b pos) (gIf ft fa fb) :=
  ⟨pe_imp (pe_ifExp hc.run ha.run hb.run) fun s H Q ⟨σ, F, Qd, R, q, k⟩ => ⟨σ, F, _, R, q, fun d qd F' H' g dk => by
    cases d with
    | true => exact ⟨σ, F', Qd, R.grow g dk, qd, k.more g⟩
    | false => exact ⟨σ, F', Qd, R.grow g dk, qd, k.more g⟩⟩⟩

/-! ### arguments, displays -/
@[simp] def gNil (_ : List SV) (Q : List D → Prop) : Prop := Q []
@[simp] def gCons (fa : GE) (fs : GA) (σ : List SV) (Q : List D → Prop) : Prop := fa σ fun x => fs σ fun xs => Q (x :: xs)
theorem ad_nil : AD B X [] gNil := ⟨pa_imp pa_nil fun s H Q ⟨σ, F, Qd, R, q, k⟩ => k _ q F H _ (Grow.refl R.ex) R.deck .nil⟩
theorem ad_cons {fs : GA} (ha : ED B X e fa) (hr : AD B X es fs) (hs : starEach (e :: es) X.env = (false, eval e X.env) :: starEach es X.env := by rfl) : AD B X (e :: es) (gCons fa fs) :=
  ⟨pa_imp (pa_cons ha.run hr.run hs) fun s H Q ⟨σ, F, Qd, R, q, k⟩ => ⟨σ, F, _, R, q, fun d qd F1 H1 v g1 d1 r1 => ⟨σ, F1, _, R.grow g1 d1, qd, fun ds qds F2 H2 vs g2 d2 r2 => k _ qds F2 H2 _ (g1.trans g2) d2 (.cons (r1.mono g2.ff) r2)⟩⟩⟩
theorem abd_nil : ABD B X [] gNil := ⟨pa_imp pa_nil fun s H Q ⟨σ, F, Qd, R, q, k⟩ => k _ q F H _ (Grow.refl R.ex) R.deck .nil⟩
theorem abd_cons {fs : GA} (ha : BD B X e fa) (hr : ABD B X es fs) (hs : starEach (e :: es) X.env = (false, eval e X.env) :: starEach es X.env := by rfl) : ABD B X (e :: es) (gCons fa fs) :=
  ⟨pa_imp (pa_cons ha.run hr.run hs) fun s H Q ⟨σ, F, Qd, R, q, k⟩ => ⟨σ, F, _, R, q, fun d qd F1 H1 v g1 d1 r1 => ⟨σ, F1, _, R.grow g1 d1, qd, fun ds qds F2 H2 vs g2 d2 r2 => k _ qds F2 H2 _ (g1.trans g2) d2 (.cons (r1.grow g2) r2)⟩⟩⟩
@[simp] def gTup (fs : GA) (σ : List SV) (Q : D → Prop) : Prop := fs σ fun xs => xs.length ≤ sizeLine ∧ Q (.tup xs)
@[simp] def gLst (fs : GA) (σ : List SV) (Q : List D → Prop) : Prop := fs σ fun xs => xs.length ≤ sizeLine ∧ Q xs
theorem ed_tup {fs : GA} {x1} (h : AD B X es fs) : ED B X (.Tuple es x1 pos) (gTup fs) :=
  ⟨pe_imp (pe_tup h.run) fun s H Q ⟨σ, F, Qd, R, q, k⟩ => ⟨σ, F, _, R, q, fun ds qd F1 H1 vs g1 d1 r1 => ⟨by rw [r1.length]; exact qd.1, fun p hp =>
    (k.more g1).frz g1.fh d1 qd.2 hp (.tup (SqT.of upd_same) (r1.mono (same_new (g1.fh.free hp))))⟩⟩⟩
theorem fd_lst {fs : GA} (h : AD B X es fs) : FD B X (.List es pos) (gLst fs) :=
  ⟨pe_imp (pe_lst h.run) fun s H Q ⟨σ, F, Qd, R, q, k⟩ => ⟨σ, F, _, R, q, fun ds qd F1 H1 vs g1 d1 r1 => ⟨by rw [r1.length]; exact qd.1, fun p hp => (k.more g1).laid g1.fh d1 qd.2 hp r1⟩⟩⟩

/-! ### items -/
def look {κ : Type} [BEq κ] (kvs : List (κ × D)) (k : κ) : Option D := kvs.lookup k
def ixD : D → D → (D → Prop) → Prop
  | .tup xs, .int i, Q => ∃ x, atI xs i = some x ∧ Q x
  | .lst xs, .int i, Q => ∃ x, atI xs i = some x ∧ Q x
  | .str z, .int i, Q => z.length ≤ sizeLine ∧ ∃ c, atI z.cps.toList i = some c ∧ Q (.str ⟨#[c]⟩)
  | _, _, _ => False
theorem Reps.atI {K : Kn} {F : Hp} {vs : List V} {ds : List D} {i : Int} {x : D} (h : Reps K F vs ds) (e : L2.atI ds i = some x) : ∃ v, L2.atI vs i = some v ∧ Rep K F v x := by
  unfold L2.atI at e ⊢
  rw [h.length]
  cases q : ixN ds.length i with
  | none =>
    rw [q] at e
    cases e
  | some j =>
    rw [q] at e
    obtain ⟨v, h1, h2⟩ := h.get (i := j) (x := x) e
    exact ⟨v, h1, h2⟩
theorem ixR_by {r' : R2} (w : ∀ v u H Q, r' v u H Q → ∃ r, IxR X r ∧ r v u H Q) : IxR X r' := fun vl sl pins s σ H x y v u Q I rx ry h hs => by
  obtain ⟨r, h1, h2⟩ := w _ _ _ _ h
  exact h1 vl sl pins s σ H x y v u Q I rx ry h2 hs
theorem o_ix : IxR X (LO2 B X.kn ixD) := ixR_by fun v u H Q ⟨F, x, y, Qd, e, dk, r1, r2, q, k⟩ => by
  unfold ixD at q
  split at q
  · obtain ⟨a, vs, rfl, _, h, s⟩ := r1.tup e
    obtain ⟨x, h1, q⟩ := q
    obtain ⟨w, h2, h3⟩ := s.atI h1
    exact ⟨_, ix_tup, a, vs, _, w, rfl, r2.int, h, h2, k.here e dk q h3⟩
  · obtain ⟨a, vs, rfl, h, s⟩ := r1.lst e
    obtain ⟨x, h1, q⟩ := q
    obtain ⟨w, h2, h3⟩ := s.atI h1
    exact ⟨_, ix_list, a, vs, _, w, rfl, r2.int, SqL.of h, h2, k.here e dk q h3⟩
  · obtain ⟨z, c, h1, q⟩ := q
    exact ⟨_, ix_str, _, _, c, r1.str, r2.int, z, h1, k.here e dk q (.str _)⟩
  · exact q.elim
theorem ed_ix (ha : BD B X a fa) (hb : BD B X b fb) (hs : PlainIx b := by exact fun _ _ => rfl) : ED B X (.Subscript a b pos) (gBin ixD fa fb) :=
  ⟨pe_imp (pe_ix o_ix ha.run hb.run hs) fun s H Q ⟨σ, F, Qd, R, q, k⟩ => lo2_of R q k⟩

/-! ### slices -/
abbrev GO := List SV → (Option Int → Prop) → Prop
def LO (B : Bs) (K : Kn) (f : GO) : TO := fun s H Q => ∃ σ F Qd, Rel B K σ s F H ∧ f σ Qd ∧ ∀ o, Qd o → ∀ F' H', Grow B.W F H F' H' → DeckIn B.W F' H' → Q o H'
structure OD (B : Bs) (X : Cx) (e : Option Expr) (f : GO) : Prop where
  run : PO X e (LO B X.kn f)
theorem po_imp {e : Option Expr} {t t' : TO} (h : PO X e t) (w : ∀ s H Q, t' s H Q → t s H Q) : PO X e t' := ⟨fun pins s σ H Q I q => h.run pins s σ H Q I (w _ _ _ q)⟩
@[simp] def gNoPart (_ : List SV) (Q : Option Int → Prop) : Prop := Q none
def unI (d : D) (Q : Int → Prop) : Prop := ∃ i, d = .int i ∧ Q i
@[simp] theorem unI_i (b : Int) (Q : Int → Prop) : unI (.int b) Q ↔ Q b := ⟨fun ⟨_, e, q⟩ => by cases e; exact q, fun q => ⟨b, rfl, q⟩⟩
@[simp] def gPart (fa : GE) (σ : List SV) (Q : Option Int → Prop) : Prop := fa σ fun d => unI d fun i => Q (some i)
theorem od_none : OD B X none gNoPart := ⟨po_imp po_none fun s H Q ⟨σ, F, Qd, R, q, k⟩ => k _ q F H (Grow.refl R.ex) R.deck⟩
theorem od_some (ha : ED B X a fa) : OD B X (some a) (gPart fa) := ⟨po_imp (po_some ha.run) fun s H Q ⟨σ, F, Qd, R, q, k⟩ => ⟨σ, F, _, R, q, fun d ⟨i, e, q⟩ F' H' v g dk r => by
  subst e
  cases r
  exact ⟨i, rfl, k _ q F' H' g dk⟩⟩⟩
def cutG {α : Type} (xs : List α) (lo hi : Option Int) : List α := (xs.drop (HT.sIx xs.length 0 lo)).take (HT.sIx xs.length xs.length hi - HT.sIx xs.length 0 lo)
theorem Reps.cut {K : Kn} {F : Hp} {vs : List V} {ds : List D} (h : Reps K F vs ds) (lo hi : Option Int) : Reps K F (cutV vs lo hi) (cutG ds lo hi) := by
  unfold cutV cutG
  rw [h.length]
  exact (h.drop _).take _
def slD : D → Option Int → Option Int → (D → Prop) → Prop
  | .tup xs, lo, hi, Q => Q (.tup (cutG xs lo hi))
  | .lst xs, lo, hi, Q => Q (.lst (cutG xs lo hi))
  | .str z, lo, hi, Q => z.length ≤ sizeLine ∧ Q (.str (cutS z lo hi))
  | _, _, _, _ => False
def LSl (B : Bs) (K : Kn) (g : D → Option Int → Option Int → (D → Prop) → Prop) : V → Option Int → Option Int → Hp → VK → Prop := fun v lo hi H Q => ∃ F x Qd, Same F H ∧ DeckIn B.W F H ∧ RepB B.W K F H v x ∧ g x lo hi Qd ∧ Fin B K F H Qd Q
theorem slR_by {r' : V → Option Int → Option Int → Hp → VK → Prop} (w : ∀ v l h H Q, r' v l h H Q → ∃ r, SlR X r ∧ r v l h H Q) : SlR X r' := by
  intro pins s σ H x v vl vu lo hi sl Q I rx hs p1 p2 h
  obtain ⟨r, h1, h2⟩ := w _ _ _ _ _ h
  exact h1 pins s σ H x v vl vu lo hi sl Q I rx hs p1 p2 h2
theorem sIx_zero_full {α : Type} (xs : List α) (lo hi : Option Int) (h : HT.sIx xs.length 0 lo = 0 ∧ HT.sIx xs.length xs.length hi = xs.length) : cutG xs lo hi = xs := by
  unfold cutG
  rw [h.1, h.2]
  simp
theorem o_sl : SlR X (LSl B X.kn slD) := slR_by fun v lo hi H Q ⟨F, x, Qd, e, dk, r1, q, k⟩ => by
  unfold slD at q
  split at q
  · obtain ⟨a, vs, rfl, f1, h, s⟩ := r1.tup e
    refine ⟨_, sl_tupA, a, vs, rfl, h, fun z => ?_, fun z p hp => ?_⟩
    · rw [s.length] at z
      rw [sIx_zero_full _ _ _ z] at q
      exact k.here e dk q (.tup f1 s)
    · exact k.frz e dk q hp (.tup (SqT.of upd_same) ((s.cut _ _).mono (same_new (e.free hp))))
  · obtain ⟨a, vs, rfl, h, s⟩ := r1.lst e
    exact ⟨_, sl_list, a, vs, rfl, SqL.of h, fun p hp => k.frz e dk q hp (.lst upd_same ((s.cut _ _).mono (same_new (e.free hp))))⟩
  · exact ⟨_, sl_str, _, r1.str, q.1, k.here e dk q.2 (.str _)⟩
  · exact q.elim
@[simp] def gSl (g : D → Option Int → Option Int → (D → Prop) → Prop) (fa : GE) (fl fh : GO) (σ : List SV) (Q : D → Prop) : Prop := fa σ fun x => fl σ fun l => fh σ fun h => g x l h Q
theorem ed_sl {lo hi : Option Expr} {fl fh : GO} {p2 : Pos} (ha : BD B X a fa) (hl : OD B X lo fl) (hh : OD B X hi fh) : ED B X (.Subscript a (.Slice lo hi none p2) pos) (gSl slD fa fl fh) :=
  ⟨pe_imp (pe_slice o_sl ha.run hl.run hh.run) fun s H Q ⟨σ, F, Qd, R, q, k⟩ => ⟨σ, F, _, R, q, fun x qx F1 H1 v g1 d1 r1 => ⟨σ, F1, _, R.grow g1 d1, qx, fun l ql F2 H2 g2 d2 =>
    ⟨σ, F2, _, R.grow (g1.trans g2) d2, ql, fun h qh F3 H3 g3 d3 => ⟨F3, x, Qd, g3.fh, d3, (r1.grow g2).grow g3, qh, k.more ((g1.trans g2).trans g3)⟩⟩⟩⟩⟩
/-- a slice of a list, a new list of one's own -/
def slF : D → Option Int → Option Int → (List D → Prop) → Prop
  | .lst xs, lo, hi, Q => Q (cutG xs lo hi)
  | _, _, _, _ => False
def LSlF (B : Bs) (K : Kn) (g : D → Option Int → Option Int → (List D → Prop) → Prop) : V → Option Int → Option Int → Hp → VK → Prop := fun v lo hi H Q => ∃ F x Qd, Same F H ∧ DeckIn B.W F H ∧ RepB B.W K F H v x ∧ g x lo hi Qd ∧ FinF B K F H Qd Q
theorem o_slF : SlR X (LSlF B X.kn slF) := slR_by fun v lo hi H Q ⟨F, x, Qd, e, dk, r1, q, k⟩ => by
  unfold slF at q
  split at q
  · obtain ⟨a, vs, rfl, h, s⟩ := r1.lst e
    exact ⟨_, sl_list, a, vs, rfl, SqL.of h, fun p hp => k.laid e dk q hp (s.cut _ _)⟩
  · exact q.elim
@[simp] def gSlF (g : D → Option Int → Option Int → (List D → Prop) → Prop) (fa : GE) (fl fh : GO) (σ : List SV) (Q : List D → Prop) : Prop := fa σ fun x => fl σ fun l => fh σ fun h => g x l h Q
theorem fd_sl {lo hi : Option Expr} {fl fh : GO} {p2 : Pos} (ha : BD B X a fa) (hl : OD B X lo fl) (hh : OD B X hi fh) : FD B X (.Subscript a (.Slice lo hi none p2) pos) (gSlF slF fa fl fh) :=
  ⟨pe_imp (pe_slice o_slF ha.run hl.run hh.run) fun s H Q ⟨σ, F, Qd, R, q, k⟩ => ⟨σ, F, _, R, q, fun x qx F1 H1 v g1 d1 r1 => ⟨σ, F1, _, R.grow g1 d1, qx, fun l ql F2 H2 g2 d2 =>
    ⟨σ, F2, _, R.grow (g1.trans g2) d2, ql, fun h qh F3 H3 g3 d3 => ⟨F3, x, Qd, g3.fh, d3, (r1.grow g2).grow g3, qh, k.more ((g1.trans g2).trans g3)⟩⟩⟩⟩⟩
/-- xs[::-1] of a list -/
def unL (d : D) (Q : List D → Prop) : Prop := ∃ xs, d = .lst xs ∧ Q xs
@[simp] theorem unL_l (b : List D) (Q : List D → Prop) : unL (.lst b) Q ↔ Q b := ⟨fun ⟨_, e, q⟩ => by cases e; exact q, fun q => ⟨b, rfl, q⟩⟩
@[simp] def gRev (fa : GE) (σ : List SV) (Q : List D → Prop) : Prop := fa σ fun d => unL d fun xs => Q xs.reverse
theorem fd_rev {k : Nat} {p1 p2 p3 : Pos} (ha : BD B X a fa) : FD B X (.Subscript a (.Slice none none (some (.UnaryOp .USub (.Constant (.int 1) k p1) p2)) p3) pos) (gRev fa) :=
  ⟨pe_imp (pe_revL ha.run) fun s H Q ⟨σ, F, Qd, R, q, k⟩ => ⟨σ, F, _, R, q, fun d ⟨xs, e, qx⟩ F1 H1 v g1 d1 r1 => by
    subst e
    obtain ⟨a, vs, rfl, h, s⟩ := r1.lst g1.fh
    exact ⟨a, vs, rfl, SqL.of h, fun p hp => (k.more g1).laid g1.fh d1 qx hp s.reverse⟩⟩⟩
/-- list + list, list * n: new lists of one's own -/
def catF : D → D → (List D → Prop) → Prop
  | .lst xs, .lst ys, Q => xs.length + ys.length ≤ sizeLine ∧ Q (xs ++ ys)
  | _, _, _ => False
def repF : D → D → (List D → Prop) → Prop
  | .lst xs, .int k, Q => 0 ≤ k ∧ k < 2 ^ 63 ∧ xs.length * k.toNat ≤ sizeLine ∧ Q (List.replicate k.toNat xs).flatten
  | _, _, _ => False
def LOF (B : Bs) (K : Kn) (g : D → D → (List D → Prop) → Prop) : R2 := fun v u H Q => ∃ F x y Qd, Same F H ∧ DeckIn B.W F H ∧ RepB B.W K F H v x ∧ RepB B.W K F H u y ∧ g x y Qd ∧ FinF B K F H Qd Q
@[simp] def gBinF (g : D → D → (List D → Prop) → Prop) (fa fb : GE) (σ : List SV) (Q : List D → Prop) : Prop := fa σ fun x => fb σ fun y => g x y Q
theorem o_catF : OpR X (binaryOp .Add) (LOF B X.kn catF) := opR_by fun v u H Q ⟨F, x, y, Qd, e, dk, r1, r2, q, k⟩ => by
  unfold catF at q
  split at q
  · obtain ⟨a, vs, rfl, h1, s1⟩ := r1.lst e
    obtain ⟨b, us, rfl, h2, s2⟩ := r2.lst e
    exact ⟨_, op_cat, a, b, vs, us, rfl, rfl, h1, h2, by rw [s1.length, s2.length]; exact q.1, fun p hp => k.laid e dk q.2 hp (s1.append s2)⟩
  · exact q.elim
theorem o_repF : OpR X (binaryOp .Mult) (LOF B X.kn repF) := opR_by fun v u H Q ⟨F, x, y, Qd, e, dk, r1, r2, q, k⟩ => by
  unfold repF at q
  split at q
  · obtain ⟨a, vs, rfl, h1, s1⟩ := r1.lst e
    obtain ⟨q0, q1, q2, q3⟩ := q
    exact ⟨_, op_rep, a, _, vs, rfl, r2.int, h1, by omega, q1, by rw [s1.length]; exact q2, fun p hp => k.laid e dk q3 hp (s1.rep _)⟩
  · exact q.elim
theorem fd_bin {op : Operator} {g : D → D → (List D → Prop) → Prop} (ho : OpR X (binaryOp op) (LOF B X.kn g)) (ha : BD B X a fa) (hb : BD B X b fb) : FD B X (.BinOp a op b pos) (gBinF g fa fb) :=
  ⟨pe_imp (pe_op ho ha.run hb.run) fun s H Q ⟨σ, F, Qd, R, q, k⟩ => lb_two (Qd := fun x y => g x y Qd) R q fun x y F' H' v u q g' d r1 r2 => ⟨F', x, y, Qd, g'.fh, d, r1, r2, q, k.more g'⟩⟩
end
end ND

/-! ND4: what a def promises, by data; calls -/
namespace ND
open PySem PySem.Spec L2
open PyProof.Rows (envOfC)

/-- an error: its class's name, its attributes -/
structure Er where
  nm : Str
  fs : List (Str × D)
/-- the exception of the class c with the dict o -/
def RepEr (K : Kn) (F H : Hp) (c : Value) (o : Option Addr) (er : Er) : Prop :=
  K.mg er.nm = some c ∧ (er.fs ≠ [] → ∃ a vs, o = some a ∧ H a = some (.xd vs) ∧ RepFs K F vs er.fs)
/-- what a def promises: the deck, the arguments, what is wanted of the answer, of an error -/
abbrev DSp := WD → List D → (D → Prop) → (Er → Prop) → Prop
def FinE (W : WD) (K : Kn) (F H : Hp) (Rd : Er → Prop) (E : XK) : Prop := ∀ er, Rd er → ∀ F' H' c o, Grow W F H F' H' → DeckIn W F' H' → RepEr K F' H' c o er → E c o H'
theorem FinE.more {W : WD} {K : Kn} {F H F' H' : Hp} {Rd : Er → Prop} {E : XK} (h : FinE W K F H Rd E) (g : Grow W F H F' H') : FinE W K F' H' Rd E := fun er q F2 H2 c o g2 d r => h er q F2 H2 c o (g.trans g2) d r
theorem FinE.none {W : WD} {K : Kn} {F H : Hp} : FinE W K F H (fun _ => False) E0 := fun _ q _ _ _ _ _ _ _ => q
def liftSp (K : Kn) (sp : DSp) : Sp := fun vs H Q E => ∃ W F ds Qd Rd, Same F H ∧ DeckIn W F H ∧ Reps K F vs ds ∧ sp W ds Qd Rd ∧ Fin ⟨W, F, H⟩ K F H Qd Q ∧ FinE W K F H Rd E

/-- as FnOk, where nothing is being shown around -/
structure FnG (P : Program) (w : World) (K : PySem.W.Frag) (mg : Str → Option Value) (base : Heap) (k : Nat) (f : Addr) (fd : FuncData) (ps : List Str) (sp : Sp) : Prop where
  len : ∀ vs H Q E, sp vs H Q E → vs.length = ps.length
  run : ∀ (A : Around) (outer : List Env) (s : Shared) (H : Hp) (args : Args) (us : List Value) (vs : List V) (Q : VK) (E : XK), A.guards = some [] → Room k A → Env0 P w K mg base A outer s H → BindsTo s fd args (ps.zip us) → Vals vs us → sp vs H Q E →
    codeAny (model P w) A (.call (.ref f) args) (CR (L2.CX P w) outer P w H s Q E) s
theorem FnG.of {P : Program} {w : World} {K : PySem.W.Frag} {mg : Str → Option Value} {base : Heap} {k : Nat} {f : Addr} {fd : FuncData} {ps : List Str} {sp : Sp} (F : FnOk P w K mg base (L2.CX P w) k f fd ps sp) : FnG P w K mg base k f fd ps sp :=
  ⟨F.len, fun A outer s H args us vs Q E _ => F.run A outer s H args us vs Q E⟩
section
variable {P : Program} {w : World} {K : PySem.W.Frag} {mg : Str → Option Value} {base : Heap} {k : Nat} {f : Addr} {qual name : Str} {scope : Scope} {cdv : Value} {N ps : List Str}
/-- how a body ends is how its call ends -/
theorem ends_call {A : Around} {outer : List Env} {s z : Shared} {H : Hp} {E : XK} {Q : VK} : ∀ {fl : Flow}, SP (cxOf (L2.CX P w) P w K mg base N qual scope f cdv A outer s H E) [] { nx := fun _ G => Q .non G, rt := Q } fl z →
    match fl with | .ret u => CE outer P w H s Q u z | .next => CE outer P w H s Q .none z | _ => False
  | .next, ⟨_, G, I, q⟩ => ⟨.non, G, I.os, I.bare, I.base, I.hok, rfl, q⟩
  | .ret _, ⟨v, _, G, I, r, q⟩ => ⟨v, G, I.os, I.bare, I.base, I.hok, r, q⟩
  | .brk, ⟨_, _, _, q⟩ => q
  | .cont, ⟨_, _, _, q⟩ => q
theorem par_kinds (S : FnScope N ps scope) {us : List Value} {n : Nat} : ∀ y ∈ ps.zip us, scope.names.lookup y.1 = some .local ∨ (scope.names.lookup y.1 = some .cell ∧ ((cellsFrom n scope.names []).lookup y.1).isSome = true) :=
  fun y hy => (S.par y.1 (List.of_mem_zip (show (y.1, y.2) ∈ _ from hy)).1).imp id fun q => ⟨q, PySem.W.cellsFrom_some _ _ _ (.inl q)⟩
/-- a def by its body, where nothing is being shown around -/
theorem fn_ofG {params : Arguments} {body : List Stmt} {dV kV doc pm ct oc : Value} {an od : Option Addr} {osl : Array (Option Value)} {sp : Sp}
    (at_f : K.lookup f = some ⟨oc, od, .func (PySem.W.fnOf name qual params body scope dV kV doc pm an cdv ct), osl⟩) (code : PySem.W.codeIn K cdv qual = true) (S : FnScope N ps scope) (cnt : ∀ vs H Q E, sp vs H Q E → vs.length = ps.length)
    (walk : ∀ (A : Around) (outer : List Env) (s : Shared) (H : Hp) (vs : List V) (Q : VK) (E : XK), (A.deeper (envOfC qual scope s.heap.objs.size f cdv)).guards = some [] → Room k (A.deeper (envOfC qual scope s.heap.objs.size f cdv)) → sp vs H Q E →
      ∃ t, PSs (cxOf (L2.CX P w) P w K mg base N qual scope f cdv A outer s H E) body t ∧ t { nx := fun _ G => Q .non G, rt := Q } (start N vs) H) :
    FnG P w K mg base (k + 1) f (PySem.W.fnOf name qual params body scope dV kV doc pm an cdv ct) ps sp :=
  ⟨cnt, fun A outer s H args us vs Q E quiet room env bound vals want => by
    have stands : ∀ b o, base.get? b = some o → s.heap.get? b = some o := fun b o e => (env.bs b o e).1
    have inK := env.mod.kin.keeps stands
    obtain ⟨t, does, goal⟩ := walk A outer s H vs Q E quiet (room.deeper _) want
    exact codeAny_call_function room.depth (inK _ _ at_f) rfl S.co S.gen rfl (PySem.W.codeRec_of inK code) (bound _ _ _ _ (wpAny_newFunctionEnv_cells S.kind (par_kinds S) fun e same z entered => by
      cases same
      exact ⟨(env.mod.nolimit.keeps stands).keeps entered.toInCall.keep, codeAny_func (wpAny_mono (does.run [] z (start N vs) H _ (inv_start S room.hd env (cnt _ _ _ _ want) vals entered) goal)
        (fun fl z2 q => by
          have r := ends_call q
          cases fl <;> first | exact r | exact r.elim) fun _ _ q => q)⟩))⟩
end

/-! ### calls of a def of the module, by position -/
@[simp] def gCall (sp : DSp) (W : WD) (R : Er → Prop) (fs : GA) (σ : List SV) (Q : D → Prop) : Prop := fs σ fun ds => sp W ds Q R
section
variable {B : Bs} {X : Cx} {k : Nat} {f : Addr} {fd : FuncData} {ps : List Str} {sp : DSp} {R : Er → Prop} {E : XK} {x : Str} {p pos : Pos} {e : Expr} {es : List Expr} {fs : GA}
theorem la_call {s : L2.St} {σ : List SV} {F H : Hp} {Qd : D → Prop} {Q : VK} {K : Kn} (hE : FinE B.W K B.F B.H R E) (Rl : Rel B K σ s F H) (q : gCall sp B.W R fs σ Qd) (kf : Fin B K F H Qd Q) : LA B K fs s H fun vs H1 => liftSp K sp (vs ++ []) H1 Q E :=
  ⟨σ, F, _, Rl, q, fun ds qds F1 H1 vs g1 d1 r1 => ⟨B.W, F1, ds, Qd, R, g1.fh, d1, by rw [List.append_nil]; exact r1, qds, fun d qd F2 H2 v g2 d2 r2 => kf d qd F2 H2 v (g1.trans g2) d2 r2, hE.more (Rl.base.trans g1)⟩⟩
theorem ed_call (G : FnOk X.prog X.w X.K X.mg X.base (L2.CX X.prog X.w) k f fd ps (liftSp X.kn sp)) (hr : Room k X.A) (hg : Gl X x) (hm : X.mg x = some (.ref f)) (hk : PySem.W.keepIn X.K (.ref f) = true) (hb : Binds X.K fd ps []) (hx : Passes (L2.CX X.prog X.w) X E) (hE : FinE B.W X.kn B.F B.H R E)
    (ha : AD B X (e :: es) fs) (hdb : (x == ("__debug__" : Str)) = false := by decide) (he : starEach (e :: es) X.env = (false, eval e X.env) :: starEach es X.env := by rfl) (hpl : (backTo pos (starEach es X.env)).any (·.1) = false := by rfl) :
    ED B X (.Call (.Name x p) (e :: es) [] pos) (gCall sp B.W R fs) :=
  ⟨pe_imp (pe_call G hr hg hm hk hb .nil hx ha.run hdb he hpl) fun s H Q ⟨σ, F, Qd, Rl, q, kf⟩ => la_call hE Rl q kf⟩
theorem ed_call0 (G : FnOk X.prog X.w X.K X.mg X.base (L2.CX X.prog X.w) k f fd ps (liftSp X.kn sp)) (hr : Room k X.A) (hg : Gl X x) (hm : X.mg x = some (.ref f)) (hk : PySem.W.keepIn X.K (.ref f) = true) (hb : Binds X.K fd ps []) (hx : Passes (L2.CX X.prog X.w) X E) (hE : FinE B.W X.kn B.F B.H R E)
    (hdb : (x == ("__debug__" : Str)) = false := by decide) : ED B X (.Call (.Name x p) [] [] pos) (gCall sp B.W R gNil) :=
  ⟨pe_imp (pe_call0 G hr hg hm hk hb .nil hx hdb) fun s H Q ⟨σ, F, Qd, Rl, q, kf⟩ => ⟨B.W, F, [], Qd, R, Rl.ex, Rl.deck, .nil, q, fun d qd F2 H2 v g2 d2 r2 => kf d qd F2 H2 v g2 d2 r2, hE.more Rl.base⟩⟩
/-- a call's end, back in the caller -/
theorem back_in {pins : List (Addr × Obj)} {σ : L2.St} {H : Hp} {s z : Shared} {Q : VK} (I : Inv X pins σ H s) (lets : Passes (L2.CX X.prog X.w) X E) : ∀ {r : Result}, CR (L2.CX X.prog X.w) X.stack X.prog X.w H s Q E r z →
    match r with | .ok (.ret u) => EP X pins σ Q u z | .ok _ => False | .error e => X.xe e z
  | .ok (.ret _), h => I.after h
  | .ok .next, h => h
  | .ok .brk, h => h
  | .ok .cont, h => h
  | .error _, h => lets _ _ _ _ _ _ I h
theorem pe_callG {sp : Sp} {t : TA} (F : FnG X.prog X.w X.K X.mg X.base k f fd ps sp) (quiet : X.A.guards = some []) (room : Room k X.A) (glob : Gl X x) (isf : X.mg x = some (.ref f)) (kept : PySem.W.keepIn X.K (.ref f) = true) (bind : Binds X.K fd ps []) (lets : Passes (L2.CX X.prog X.w) X E) (args : PA X (e :: es) t)
    (ndb : (x == ("__debug__" : Str)) = false := by decide) (star : starEach (e :: es) X.env = (false, eval e X.env) :: starEach es X.env := by rfl) (plain : (backTo pos (starEach es X.env)).any (·.1) = false := by rfl) :
    PE X (.Call (.Name x p) (e :: es) [] pos) (fun σ H Q => t σ H fun vs G => sp vs G Q E) :=
  ⟨fun pins s σ H Q I h => wpAny_Call_Name_kw (ld_glob I glob isf (PySem.W.callWith_K (h₀ := X.base) I.ok.mod.kin kept (thn (args.run pos pins s σ H _ I h) fun us z ⟨vs, G, J, vals, q⟩ => ⟨J.kIn, by
    have n : us.length = ps.length := (Vals.length vals).symm.trans (F.len _ _ _ _ q)
    have bd := bind z us J.kIn (by rw [List.append_nil]; exact n)
    rw [List.append_nil] at bd
    refine wpAny_call (codeAny_mono (F.run X.A X.stack z G ⟨us, []⟩ us vs Q E quiet room J.env0 bd vals q) fun r z2 o => ?_)
    have b := back_in J lets o
    rcases r with _ | fl
    · exact b
    · cases fl <;> first | exact b | exact b.elim⟩) star plain) ndb)⟩
theorem ed_callG (G : FnG X.prog X.w X.K X.mg X.base k f fd ps (liftSp X.kn sp)) (hG : X.A.guards = some []) (hr : Room k X.A) (hg : Gl X x) (hm : X.mg x = some (.ref f)) (hk : PySem.W.keepIn X.K (.ref f) = true) (hb : Binds X.K fd ps []) (hx : Passes (L2.CX X.prog X.w) X E) (hE : FinE B.W X.kn B.F B.H R E)
    (ha : AD B X (e :: es) fs) (hdb : (x == ("__debug__" : Str)) = false := by decide) (he : starEach (e :: es) X.env = (false, eval e X.env) :: starEach es X.env := by rfl) (hpl : (backTo pos (starEach es X.env)).any (·.1) = false := by rfl) :
    ED B X (.Call (.Name x p) (e :: es) [] pos) (gCall sp B.W R fs) :=
  ⟨pe_imp (pe_callG G hG hr hg hm hk hb hx ha.run hdb he hpl) fun s H Q ⟨σ, F, Qd, Rl, q, kf⟩ => by
    have z := la_call (s := s) (Q := Q) hE Rl q kf
    simpa using z⟩

/-! ### by keywords: n positional values, m by keyword, put in the order pm -/
def permA {α : Type} (n m : Nat) (pm : List Nat) (us ws : List α) : List α := if us.length = n ∧ ws.length = m then pm.filterMap fun i => (us ++ ws)[i]? else []
theorem paired_app {α β : Type} {R : α → β → Prop} : ∀ {a c : List α} {b d : List β}, Paired R a b → Paired R c d → Paired R (a ++ c) (b ++ d)
  | _, _, _, _, .nil, h => h
  | _, _, _, _, .cons r t, h => .cons r (paired_app t h)
theorem paired_at {α β : Type} {R : α → β → Prop} : ∀ {a : List α} {b : List β} (i : Nat), Paired R a b → (a[i]? = none ∧ b[i]? = none) ∨ ∃ x y, a[i]? = some x ∧ b[i]? = some y ∧ R x y
  | _, _, _, .nil => .inl ⟨by simp, by simp⟩
  | _, _, 0, .cons r _ => .inr ⟨_, _, rfl, rfl, r⟩
  | _, _, i + 1, .cons _ t => by simpa using paired_at i t
theorem paired_pick {α β : Type} {R : α → β → Prop} {a : List α} {b : List β} (h : Paired R a b) : ∀ pm : List Nat, Paired R (pm.filterMap fun i => a[i]?) (pm.filterMap fun i => b[i]?)
  | [] => .nil
  | i :: pm => by
    rw [List.filterMap_cons, List.filterMap_cons]
    rcases paired_at i h with ⟨e1, e2⟩ | ⟨x, y, e1, e2, r⟩
    · rw [e1, e2]
      exact paired_pick h pm
    · rw [e1, e2]
      exact .cons r (paired_pick h pm)
theorem paired_len {α β : Type} {R : α → β → Prop} {a : List α} {b : List β} (h : Paired R a b) : a.length = b.length := Paired.length h
theorem paired_perm {α β : Type} {R : α → β → Prop} {n m : Nat} {pm : List Nat} {us ws : List α} {us' ws' : List β} (h : Paired R us us') (h' : Paired R ws ws') : Paired R (permA n m pm us ws) (permA n m pm us' ws') := by
  unfold permA
  rw [paired_len h, paired_len h']
  split
  · exact paired_pick (paired_app h h') pm
  · exact .nil
theorem Reps.pair {K : Kn} {F : Hp} : ∀ {vs : List V} {ds : List D}, Reps K F vs ds → Paired (Rep K F) vs ds
  | _, _, .nil => .nil
  | _, _, .cons r t => .cons r (Reps.pair t)
theorem Reps.of_pair {K : Kn} {F : Hp} : ∀ {vs : List V} {ds : List D}, Paired (Rep K F) vs ds → Reps K F vs ds
  | _, _, .nil => .nil
  | _, _, .cons r t => .cons r (Reps.of_pair t)
theorem kb_perm {K : PySem.W.Frag} {ks : List Str} {n m : Nat} {pm : List Nat} (hp : ps ≠ []) (h : ∀ us ws : List Value, us.length = n → ws.length = m → bindArgs fd ⟨us, ks.zip ws⟩ = pure (ps.zip (permA n m pm us ws))) : KBinds K fd ps ks (permA n m pm) (permA n m pm) :=
  ⟨fun s us ws _ hl => by
    have hc : us.length = n ∧ ws.length = m := by
      by_cases c : us.length = n ∧ ws.length = m
      · exact c
      · exfalso
        unfold permA at hl
        rw [if_neg c] at hl
        cases ps with
        | nil => exact hp rfl
        | cons _ _ => simp at hl
    exact .of_eq (h us ws hc.1 hc.2), fun r1 r2 => paired_perm r1 r2⟩
structure KD (B : Bs) (X : Cx) (kws : List Keyword) (f : GA) : Prop where
  run : PK X kws (LA B X.kn f)
theorem pk_imp {X : Cx} {kws : List Keyword} {t t' : TA} (h : PK X kws t) (w : ∀ s H Q, t' s H Q → t s H Q) : PK X kws t' := ⟨fun pos pins s σ H Q I q => h.run pos pins s σ H Q I (w _ _ _ q)⟩
theorem kd_nil : KD B X [] gNil := ⟨pk_imp pk_nil fun s H Q ⟨σ, F, Qd, R, q, k⟩ => k _ q F H _ (Grow.refl R.ex) R.deck .nil⟩
theorem kd_cons {nm : Option Str} {kpos : Pos} {kws : List Keyword} {fa : GE} (ha : ED B X e fa) (hr : KD B X kws fs) : KD B X (⟨nm, e, kpos⟩ :: kws) (gCons fa fs) :=
  ⟨pk_imp (pk_cons ha.run hr.run) fun s H Q ⟨σ, F, Qd, R, q, k⟩ => ⟨σ, F, _, R, q, fun d qd F1 H1 v g1 d1 r1 => ⟨σ, F1, _, R.grow g1 d1, qd, fun ds qds F2 H2 vs g2 d2 r2 => k _ qds F2 H2 _ (g1.trans g2) d2 (.cons (r1.mono g2.ff) r2)⟩⟩⟩
/-- f(e, .., k = v, ..) or f(k = v, ..) -/
@[simp] def gCallK (sp : DSp) (n m : Nat) (pm : List Nat) (W : WD) (R : Er → Prop) (fs fk : GA) (σ : List SV) (Q : D → Prop) : Prop := fs σ fun us => fk σ fun ws => sp W (permA n m pm us ws) Q R
variable {ks : List Str} {kws : List Keyword} {fk : GA} {n m : Nat} {pm : List Nat}
theorem pe_callK0 {sp : Sp} {gV : List V → List V → List V} {g : List Value → List Value → List Value} {tk : TA} (F : FnOk X.prog X.w X.K X.mg X.base (L2.CX X.prog X.w) k f fd ps sp) (room : Room k X.A) (glob : Gl X x) (isf : X.mg x = some (.ref f)) (kept : PySem.W.keepIn X.K (.ref f) = true)
    (bind : KBinds X.K fd ps ks g gV) (lets : Passes (L2.CX X.prog X.w) X E) (named : PK X kws tk) (each : (backToKw pos (keywordEach kws X.env)).all (·.1.isSome) = true := by rfl) (order : (backToKw pos (keywordEach kws X.env)).filterMap (·.1) = ks := by rfl) (ndb : (x == ("__debug__" : Str)) = false := by decide)
    (plain : ((backTo pos (starEach [] X.env)).any (·.1) || (backToKw pos (keywordEach kws X.env)).any (·.1.isNone)) = false := by rfl) : PE X (.Call (.Name x p) [] kws pos) (tCallK sp gV E tNil tk) :=
  ⟨fun pins s σ H Q I h => wpAny_Call_Name_kw (ld_glob I glob isf (PySem.W.callWith_KW0 (h₀ := X.base) I.ok.mod.kin kept each (thn (named.run pos pins s σ H _ I h) fun ws z ⟨zs, G, J, vals, q⟩ => ⟨J.kIn, order ▸ run_fnk (us := []) (vs := []) F room bind lets J .nil vals q⟩) plain) ndb)⟩
theorem la_callK {s : L2.St} {σ : List SV} {F H : Hp} {Qd : D → Prop} {Q : VK} {K : Kn} (hE : FinE B.W K B.F B.H R E) (Rl : Rel B K σ s F H) (q : gCallK sp n m pm B.W R fs fk σ Qd) (kf : Fin B K F H Qd Q) :
    LA B K fs s H fun vs H1 => LA B K fk s H1 fun zs H2 => liftSp K sp (permA n m pm vs zs) H2 Q E :=
  ⟨σ, F, _, Rl, q, fun ds qds F1 H1 vs g1 d1 r1 => ⟨σ, F1, _, Rl.grow g1 d1, qds, fun zs qzs F2 H2 ws g2 d2 r2 => ⟨B.W, F2, _, Qd, R, g2.fh, d2, Reps.of_pair (paired_perm (r1.mono g2.ff).pair r2.pair), qzs,
    fun d qd F3 H3 v g3 d3 r3 => kf d qd F3 H3 v ((g1.trans g2).trans g3) d3 r3, hE.more ((Rl.base.trans g1).trans g2)⟩⟩⟩
theorem ed_callK (G : FnOk X.prog X.w X.K X.mg X.base (L2.CX X.prog X.w) k f fd ps (liftSp X.kn sp)) (hr : Room k X.A) (hg : Gl X x) (hm : X.mg x = some (.ref f)) (hk : PySem.W.keepIn X.K (.ref f) = true) (hb : KBinds X.K fd ps ks (permA n m pm) (permA n m pm)) (hx : Passes (L2.CX X.prog X.w) X E) (hE : FinE B.W X.kn B.F B.H R E)
    (ha : AD B X (e :: es) fs) (hkw : KD B X kws fk) (hall : (backToKw pos (keywordEach kws X.env)).all (·.1.isSome) = true := by rfl) (hks : (backToKw pos (keywordEach kws X.env)).filterMap (·.1) = ks := by rfl)
    (hdb : (x == ("__debug__" : Str)) = false := by decide) (he : starEach (e :: es) X.env = (false, eval e X.env) :: starEach es X.env := by rfl)
    (hpl : ((backTo pos (starEach (e :: es) X.env)).any (·.1) || (backToKw pos (keywordEach kws X.env)).any (·.1.isNone)) = false := by rfl) :
    ED B X (.Call (.Name x p) (e :: es) kws pos) (gCallK sp n m pm B.W R fs fk) :=
  ⟨pe_imp (pe_callK G hr hg hm hk hb hx ha.run hkw.run hall hks hdb he hpl) fun s H Q ⟨σ, F, Qd, Rl, q, kf⟩ => la_callK hE Rl q kf⟩
theorem ed_callK0 (G : FnOk X.prog X.w X.K X.mg X.base (L2.CX X.prog X.w) k f fd ps (liftSp X.kn sp)) (hr : Room k X.A) (hg : Gl X x) (hm : X.mg x = some (.ref f)) (hk : PySem.W.keepIn X.K (.ref f) = true) (hb : KBinds X.K fd ps ks (permA n m pm) (permA n m pm)) (hx : Passes (L2.CX X.prog X.w) X E) (hE : FinE B.W X.kn B.F B.H R E)
    (hkw : KD B X kws fk) (hall : (backToKw pos (keywordEach kws X.env)).all (·.1.isSome) = true := by rfl) (hks : (backToKw pos (keywordEach kws X.env)).filterMap (·.1) = ks := by rfl)
    (hdb : (x == ("__debug__" : Str)) = false := by decide)
    (hpl : ((backTo pos (starEach [] X.env)).any (·.1) || (backToKw pos (keywordEach kws X.env)).any (·.1.isNone)) = false := by rfl) :
    ED B X (.Call (.Name x p) [] kws pos) (gCallK sp n m pm B.W R gNil fk) :=
  ⟨pe_imp (pe_callK0 G hr hg hm hk hb hx hkw.run hall hks hdb hpl) fun s H Q ⟨σ, F, Qd, Rl, q, kf⟩ => ⟨σ, F, _, Rl, q, fun zs qzs F2 H2 ws g2 d2 r2 => ⟨B.W, F2, _, Qd, R, g2.fh, d2, Reps.of_pair (paired_perm .nil r2.pair), qzs,
    fun d qd F3 H3 v g3 d3 r3 => kf d qd F3 H3 v (g2.trans g3) d3 r3, hE.more (Rl.base.trans g2)⟩⟩⟩
end
end ND

/-! ND5: statements, loops -/
namespace ND
open PySem PySem.Spec L2
open PyProof.Rows (envOfC)

/-- what is wanted behind a statement, by data -/
structure Ed where
  nx : List SV → Prop
  rt : D → Prop
  bk : List SV → Prop
  ct : List SV → Prop
abbrev GS := Ed → List SV → Prop
structure EdOk (B : Bs) (K : Kn) (F : Hp) (E : Ed) (Dn : Ends) : Prop where
  nx : ∀ σ s F' H, Same F F' → Rel B K σ s F' H → E.nx σ → Dn.nx s H
  rt : ∀ d v F' H, Grow B.W B.F B.H F' H → DeckIn B.W F' H → Rep K F' v d → E.rt d → Dn.rt v H
  bk : ∀ σ s F' H, Same F F' → Rel B K σ s F' H → E.bk σ → Dn.bk s H
  ct : ∀ σ s F' H, Same F F' → Rel B K σ s F' H → E.ct σ → Dn.ct s H
def LS (B : Bs) (K : Kn) (g : GS) : TS := fun Dn s H => ∃ σ F E, Rel B K σ s F H ∧ g E σ ∧ EdOk B K F E Dn
structure SD (B : Bs) (X : Cx) (st : Stmt) (g : GS) : Prop where
  run : PS X st (LS B X.kn g)
structure SDs (B : Bs) (X : Cx) (sts : List Stmt) (g : GS) : Prop where
  run : PSs X sts (LS B X.kn g)
theorem EdOk.more {B : Bs} {K : Kn} {F F' : Hp} {E : Ed} {Dn : Ends} (h : EdOk B K F E Dn) (e : Same F F') : EdOk B K F' E Dn :=
  ⟨fun σ s F2 H a => h.nx σ s F2 H (e.trans a), h.rt, fun σ s F2 H a => h.bk σ s F2 H (e.trans a), fun σ s F2 H a => h.ct σ s F2 H (e.trans a)⟩
theorem ps_imp {X : Cx} {st : Stmt} {t t' : TS} (h : PS X st t) (w : ∀ Dn s H, t' Dn s H → t Dn s H) : PS X st t' := ⟨fun pins s σ H Dn I q => h.run pins s σ H Dn I (w _ _ _ q)⟩
theorem pss_imp {X : Cx} {st : List Stmt} {t t' : TS} (h : PSs X st t) (w : ∀ Dn s H, t' Dn s H → t Dn s H) : PSs X st t' := ⟨fun pins s σ H Dn I q => h.run pins s σ H Dn I (w _ _ _ q)⟩

@[simp] def gSkip (E : Ed) (σ : List SV) : Prop := E.nx σ
@[simp] def gSeq (g h : GS) (E : Ed) (σ : List SV) : Prop := g { E with nx := h E } σ
@[simp] def gDrop (fa : GE) (E : Ed) (σ : List SV) : Prop := fa σ fun _ => E.nx σ
@[simp] def gSet (i : Nat) (fa : GE) (E : Ed) (σ : List SV) : Prop := fa σ fun d => E.nx (σ.set i (.d d))
@[simp] def gSetL (i : Nat) (fa : GA) (E : Ed) (σ : List SV) : Prop := fa σ fun ds => E.nx (σ.set i (.ol ds))
@[simp] def gRet (fa : GE) (E : Ed) (σ : List SV) : Prop := fa σ E.rt
@[simp] def gRetN (E : Ed) (_ : List SV) : Prop := E.rt .non
@[simp] def gIfS (ft : GT) (g h : GS) (E : Ed) (σ : List SV) : Prop := ft σ fun b => if b = true then g E σ else h E σ
@[simp] def gBrk (E : Ed) (σ : List SV) : Prop := E.bk σ
@[simp] def gCnt (E : Ed) (σ : List SV) : Prop := E.ct σ
@[simp] def gNever (_ : Ed) (_ : List SV) : Prop := False
/-- a slot of one's own becomes data -/
def fz (i : Nat) (σ : List SV) : List SV := match σ[i]? with
  | some (.ol xs) => σ.set i (.d (.lst xs))
  | some (.od ks) => σ.set i (.d (.dic ks))
  | _ => σ
def gFz (i : Nat) (g : GS) : GS := fun E σ => g E (fz i σ)

section
variable {B : Bs} {X : Cx} {e a b c : Expr} {es : List Expr} {fa fb : GE} {fs : GA} {ft : GT} {g h : GS} {pos : Pos} {st : Stmt} {rest sts sts' : List Stmt}
theorem sds_nil : SDs B X [] gSkip := ⟨pss_imp pss_nil fun Dn s H ⟨σ, F, E, R, q, k⟩ => k.nx σ s F H (Same.refl F) R q⟩
theorem sds_cons (h1 : SD B X st g) (h2 : SDs B X rest h) : SDs B X (st :: rest) (gSeq g h) :=
  ⟨pss_imp (pss_cons h1.run h2.run) fun Dn s H ⟨σ, F, E, R, q, k⟩ => ⟨σ, F, { E with nx := h E }, R, q, ⟨fun σ' s' F' H' e R' q' => ⟨σ', F', E, R', q', k.more e⟩, k.rt, k.bk, k.ct⟩⟩⟩
theorem sds_one (h1 : SD B X st g) : SDs B X [st] g := ⟨pss_one h1.run⟩
theorem sd_pass : SD B X (.Pass pos) gSkip := ⟨ps_imp ps_pass fun Dn s H ⟨σ, F, E, R, q, k⟩ => k.nx σ s F H (Same.refl F) R q⟩
theorem sd_break : SD B X (.Break pos) gBrk := ⟨ps_imp ps_break fun Dn s H ⟨σ, F, E, R, q, k⟩ => k.bk σ s F H (Same.refl F) R q⟩
theorem sd_continue : SD B X (.Continue pos) gCnt := ⟨ps_imp ps_continue fun Dn s H ⟨σ, F, E, R, q, k⟩ => k.ct σ s F H (Same.refl F) R q⟩
theorem sd_never : SD B X st gNever := ⟨⟨fun _ _ _ _ _ _ ⟨_, _, _, _, q, _⟩ => q.elim⟩⟩
theorem sd_drop (ha : BD B X e fa) (hs : swapsWith e none pos.line X.env = pure false := by rfl) : SD B X (.Expr e pos) (gDrop fa) :=
  ⟨ps_imp (ps_expr ha.run hs) fun Dn s H ⟨σ, F, E, R, q, k⟩ => ⟨σ, F, _, R, q, fun d qd F' H' v g dk r => k.nx σ s F' H' g.ff (R.grow g dk) qd⟩⟩
theorem sd_set {i : Nat} {x : Str} {pos' : Pos} (hN : X.N.Nodup) (hi : X.N[i]? = some x) (hx : Loc X.env.scope x) (ha : ED B X e fa) (hs : swapsWith e (some (.Name x pos')) pos.line X.env = pure false := by rfl) (hf : X.fn x = true ∨ X.env.scope.names.lookup x = some .local := by first | exact .inl rfl | exact .inr rfl | assumption) :
    SD B X (.Assign [.Name x pos'] e pos) (gSet i fa) :=
  ⟨ps_imp (ps_set hN hi hx ha.run hs hf) fun Dn s H ⟨σ, F, E, R, q, k⟩ => ⟨σ, F, _, R, q, fun d qd F' H' v g dk r => k.nx _ _ F' H' g.ff ((R.grow g dk).set r) qd⟩⟩
theorem sd_setL {i : Nat} {x : Str} {pos' : Pos} (hN : X.N.Nodup) (hi : X.N[i]? = some x) (hx : Loc X.env.scope x) (ha : FD B X e fs) (hs : swapsWith e (some (.Name x pos')) pos.line X.env = pure false := by rfl) (hf : X.fn x = true ∨ X.env.scope.names.lookup x = some .local := by first | exact .inl rfl | exact .inr rfl | assumption) :
    SD B X (.Assign [.Name x pos'] e pos) (gSetL i fs) :=
  ⟨ps_imp (ps_set hN hi hx ha.run hs hf) fun Dn s H ⟨σ, F, E, R, q, k⟩ => ⟨σ, F, _, R, q, fun ds qd F' H' p vs g dk hp fp ep r => k.nx _ _ F' H' g.ff (R.setNew (x := .ol ds) g dk hp fp ⟨rfl, vs, ep, r⟩) qd⟩⟩
theorem sd_ret (ha : ED B X e fa) : SD B X (.Return (some e) pos) (gRet fa) :=
  ⟨ps_imp (ps_ret ha.run) fun Dn s H ⟨σ, F, E, R, q, k⟩ => ⟨σ, F, _, R, q, fun d qd F' H' v g dk r => k.rt d v F' H' (R.base.trans g) dk r qd⟩⟩
theorem sd_retN : SD B X (.Return none pos) gRetN := ⟨ps_imp ps_retN fun Dn s H ⟨σ, F, E, R, q, k⟩ => k.rt .non _ F H R.base R.deck .non q⟩
theorem sd_if (hc : TD B X c ft) (h1 : SDs B X sts g) (h2 : SDs B X sts' h) : SD B X (.If c sts sts' pos) (gIfS ft g h) :=
  ⟨ps_imp (ps_if hc.run h1.run h2.run) fun Dn s H ⟨σ, F, E, R, q, k⟩ => ⟨σ, F, _, R, q, fun d qd F' H' g dk => by
    cases d with
    | true => exact ⟨σ, F', E, R.grow g dk, qd, k.more g.ff⟩
    | false => exact ⟨σ, F', E, R.grow g dk, qd, k.more g.ff⟩⟩⟩
theorem ls_fz {K : Kn} {i : Nat} {Dn : Ends} {s : L2.St} {H : Hp} (h : LS B K (gFz i g) Dn s H) : LS B K g Dn s H := by
  obtain ⟨σ, F, E, R, q, k⟩ := h
  unfold gFz fz at q
  split at q
  · rename_i xs e
    obtain ⟨a, vs, h1, h2, h3, h4, h5, h6⟩ := R.ownL e
    exact ⟨_, upd F a (.lst vs), E, R.freeze e h1 h2 h5 h6 h4 (.inl ⟨_, rfl⟩) (.lst upd_same (h3.mono (same_new h5))), q, k.more (same_new h5)⟩
  · rename_i xs e
    obtain ⟨a, vs, h1, h2, h3, h4, h5, h6⟩ := R.ownD e
    exact ⟨_, upd F a (.dK vs), E, R.freeze e h1 h2 h5 h6 h4 (.inr ⟨_, rfl⟩) (.dic upd_same (h3.mono (same_new h5))), q, k.more (same_new h5)⟩
  · exact ⟨σ, F, E, R, q, k⟩
theorem sd_fz (i : Nat) (h : SD B X st g) : SD B X st (gFz i g) := ⟨ps_imp h.run fun _ _ _ q => ls_fz q⟩

/-! ### several targets -/
/-- the slots is take the data ds -/
@[simp] def setAll : List Nat → List D → List SV → List SV
  | i :: is, d :: ds, σ => setAll is ds (σ.set i (.d d))
  | _, _, σ => σ
def setAllV : List Nat → List V → L2.St → L2.St
  | i :: is, v :: vs, s => setAllV is vs (s.set i (some v))
  | _, _, s => s
theorem Rel.sets {K : Kn} {F H : Hp} : ∀ {is : List Nat} {ds : List D} {vs : List V} {σ : List SV} {s : L2.St}, Rel B K σ s F H → Reps K F vs ds → Rel B K (setAll is ds σ) (setAllV is vs s) F H
  | [], ds, vs, σ, s, R, h => by
    cases ds <;> cases vs <;> exact R
  | i :: is, [], vs, σ, s, R, h => by
    cases h
    exact R
  | i :: is, d :: ds, vs, σ, s, R, h => by
    cases h with
    | @cons v vs _ _ r t =>
      show Rel B K (ND.setAll is ds (σ.set i (.d d))) (setAllV is vs (s.set i (some v))) F H
      exact Rel.sets (R.set r) t
def unT (n : Nat) (d : D) (Q : List D → Prop) : Prop := ∃ ds, d = .tup ds ∧ ds.length = n ∧ Q ds
@[simp] theorem unT_t (n : Nat) (b : List D) (Q : List D → Prop) : unT n (.tup b) Q ↔ b.length = n ∧ Q b := ⟨fun ⟨_, e, q⟩ => by cases e; exact q, fun q => ⟨b, rfl, q⟩⟩
@[simp] def gSetT (is : List Nat) (fa : GE) (E : Ed) (σ : List SV) : Prop := fa σ fun d => unT is.length d fun ds => E.nx (setAll is ds σ)
/-- targets: names in the slots is -/
structure NamesAt (X : Cx) (ts : List Expr) (is : List Nat) : Prop where
  run : PGs X ts fun vs σ H Q => vs.length = is.length ∧ Q (setAllV is vs σ) H
theorem na_nil : NamesAt X [] [] := ⟨⟨fun pins s σ H vs us Q I r h => by
  obtain ⟨h1, h2⟩ := h
  cases vs with
  | nil => exact pgs_nil.run pins s σ H [] us Q I r ⟨rfl, h2⟩
  | cons _ _ => simp at h1⟩⟩
theorem na_cons {i : Nat} {is : List Nat} {t : Expr} {ts : List Expr} (h1 : PG X t (gName i)) (h2 : NamesAt X ts is) (hs : (assignEach (t :: ts) X.env).map (·.2) = assign t X.env :: (assignEach ts X.env).map (·.2) := by rfl) : NamesAt X (t :: ts) (i :: is) := ⟨⟨fun pins s σ H vs us Q I r h => by
  obtain ⟨hl, hq⟩ := h
  cases vs with
  | nil => simp at hl
  | cons v vs => exact (pgs_cons h1 h2.run hs).run pins s σ H _ us Q I r ⟨v, vs, rfl, by simpa using hl, hq⟩⟩⟩
theorem sd_setT {is : List Nat} {ts : List Expr} {kt : Nat} {pt : Pos} (hc : X.calm = true) (hn : NamesAt X ts is) (ha : ED B X e fa) (hs : swapsWithSole [.Tuple ts kt pt] e pos.line X.env = pure false := by rfl) (hw : swappedStores [.Tuple ts kt pt] e X.env = pure none := by rfl)
    (h1 : (assignEach [.Tuple ts kt pt] X.env).map (·.2) = [assign (.Tuple ts kt pt) X.env] := by rfl) (hl : (assignEach ts X.env).length = is.length := by rfl) (hst : (assignEach ts X.env).findIdx? (·.1) = none := by rfl) :
    SD B X (.Assign [.Tuple ts kt pt] e pos) (gSetT is fa) :=
  ⟨ps_imp (ps_asg ha.run (pg_tup hc hn.run hl hst) hs hw h1) fun Dn s H ⟨σ, F, E, R, q, k⟩ => ⟨σ, F, _, R, q, fun d ⟨ds, e, hl, qd⟩ F' H' v g dk r => by
    subst e
    cases r with
    | tup h r => exact ⟨_, _, rfl, same_t g.fh h, by rw [r.length]; exact hl, by rw [r.length]; exact hl, k.nx _ _ F' H' g.ff ((R.grow g dk).sets r) qd⟩⟩⟩
/-- a, b = x, y with plain local names -/
@[simp] def gPar (is : List Nat) (fs : GA) (E : Ed) (σ : List SV) : Prop := fs σ fun ds => ds.length = is.length ∧ E.nx (setAll is ds σ)
theorem sd_par2 {i j : Nat} {x y : Str} {px py pt : Pos} {kt k2 pt2} (hc : X.calm = true) (hN : X.N.Nodup) (hi : X.N[i]? = some x) (hj : X.N[j]? = some y) (hij : i ≠ j)
    (hx : X.env.scope.names.lookup x = some .local) (hy : X.env.scope.names.lookup y = some .local) (ha : AD B X [a, b] fs)
    (hw : swappedStores [.Tuple [.Name x px, .Name y py] kt pt] (.Tuple [a, b] k2 pt2) X.env = pure (some [x, y]))
    (hs : swapsWithSole [.Tuple [.Name x px, .Name y py] kt pt] (.Tuple [a, b] k2 pt2) pos.line X.env = pure false := by rfl) :
    SD B X (.Assign [.Tuple [.Name x px, .Name y py] kt pt] (.Tuple [a, b] k2 pt2) pos) (gPar [i, j] fs) :=
  ⟨ps_imp (ps_par hc hN hi hj hij hx hy ha.run hw hs) fun Dn s H ⟨σ, F, E, R, q, k⟩ => ⟨σ, F, _, R, q, fun ds ⟨hl, qd⟩ F' H' vs g dk r => by
    have R2 := (R.grow g dk).sets (is := [i, j]) r
    cases r with
    | nil => simp at hl
    | cons r1 r =>
      cases r with
      | nil => simp at hl
      | cons r2 r =>
        cases r with
        | cons _ _ => simp at hl
        | nil => exact ⟨_, _, rfl, k.nx _ _ F' H' g.ff R2 qd⟩⟩⟩
theorem sd_par3 {i j l : Nat} {x y z : Str} {px py pz pt : Pos} {kt k2 pt2} (hc : X.calm = true) (hN : X.N.Nodup) (hi : X.N[i]? = some x) (hj : X.N[j]? = some y) (hl : X.N[l]? = some z) (hij : i ≠ j) (hil : i ≠ l) (hjl : j ≠ l)
    (hx : X.env.scope.names.lookup x = some .local) (hy : X.env.scope.names.lookup y = some .local) (hz : X.env.scope.names.lookup z = some .local) (ha : AD B X [a, b, c] fs)
    (hw : swappedStores [.Tuple [.Name x px, .Name y py, .Name z pz] kt pt] (.Tuple [a, b, c] k2 pt2) X.env = pure (some [x, y, z]))
    (hs : swapsWithSole [.Tuple [.Name x px, .Name y py, .Name z pz] kt pt] (.Tuple [a, b, c] k2 pt2) pos.line X.env = pure false := by rfl) :
    SD B X (.Assign [.Tuple [.Name x px, .Name y py, .Name z pz] kt pt] (.Tuple [a, b, c] k2 pt2) pos) (gPar [i, j, l] fs) :=
  ⟨ps_imp (ps_par3 hc hN hi hj hl hij hil hjl hx hy hz ha.run hw hs) fun Dn s H ⟨σ, F, E, R, q, k⟩ => ⟨σ, F, _, R, q, fun ds ⟨hl, qd⟩ F' H' vs g dk r => by
    have R2 := (R.grow g dk).sets (is := [i, j, l]) r
    cases r with
    | nil => simp at hl
    | cons r1 r =>
      cases r with
      | nil => simp at hl
      | cons r2 r =>
        cases r with
        | nil => simp at hl
        | cons r3 r =>
          cases r with
          | cons _ _ => simp at hl
          | nil => exact ⟨_, _, _, rfl, k.nx _ _ F' H' g.ff R2 qd⟩⟩⟩

/-! ### x op= e; xs[i] = e; xs.append(e) -/
def gAug (i : Nat) (gop : D → D → (D → Prop) → Prop) (fa : GE) : GS := fun E σ => ∃ x, σ[i]? = some (.d x) ∧ fa σ fun y => gop x y fun z => E.nx (σ.set i (.d z))
theorem sd_aug {i : Nat} {x : Str} {op : Operator} {gop : D → D → (D → Prop) → Prop} {pos' : Pos} (hN : X.N.Nodup) (hi : X.N[i]? = some x) (hx : Loc X.env.scope x) (ha : BD B X e fa) (ho : OpR X (inplaceOp op) (LO2 B X.kn gop)) (hf : X.fn x = true ∨ X.env.scope.names.lookup x = some .local := by first | exact .inl rfl | exact .inr rfl | assumption) :
    SD B X (.AugAssign (.Name x pos') op e pos) (gAug i gop fa) :=
  ⟨ps_imp (ps_aug hN hi hx ha.run (ti := LO2 B X.kn gop) ho hf) fun Dn s H ⟨σ, F, E, R, ⟨y, e1, q⟩, k⟩ => by
    obtain ⟨v, h1, h2⟩ := R.dat e1
    exact ⟨v, h1, σ, F, _, R, q, fun d qd F' H' u g dk r => ⟨F', y, d, _, g.fh, dk, .inl (h2.mono g.ff), r, qd, fun z qz F2 H2 w g2 dk2 r2 => k.nx _ _ F2 H2 (g.ff.trans g2.ff) ((R.grow (g.trans g2) dk2).set r2) qz⟩⟩⟩
def iaddD : D → D → (D → Prop) → Prop
  | .int i, .int j, Q => Q (.int (i + j))
  | .str i, .str j, Q => i.length + j.length ≤ sizeLine ∧ Q (.str (i ++ j))
  | _, _, _ => False
theorem o_iadd : OpR X (inplaceOp .Add) (LO2 B X.kn iaddD) := opR_by fun v u H Q ⟨F, x, y, Qd, e, dk, r1, r2, q, k⟩ => by
  unfold iaddD at q
  split at q
  · exact ⟨_, iop_add, _, _, r1.int, r2.int, k.here e dk q (.int _)⟩
  · exact ⟨_, iop_add_str, _, _, r1.str, r2.str, q.1, k.here e dk q.2 (.str _)⟩
  · exact q.elim
theorem o_isub : OpR X (inplaceOp .Sub) (LO2 B X.kn subD) := opR_by fun v u H Q ⟨F, x, y, Qd, e, dk, r1, r2, q, k⟩ => by
  unfold subD at q
  split at q
  · exact ⟨_, iop_sub, _, _, r1.int, r2.int, k.here e dk q (.int _)⟩
  · exact q.elim
/-- xs[i] = e, xs of one's own -/
def gSetI (k : Nat) (fe fi : GE) : GS := fun E σ => ∃ xs, σ[k]? = some (.ol xs) ∧ fe σ fun x => fi σ fun d => ∃ i j, d = .int i ∧ ixN xs.length i = some j ∧ E.nx (σ.set k (.ol (xs.set j x)))
theorem sd_setI {k : Nat} {x : Str} {i : Expr} {px pt : Pos} {fe fi : GE} (hv : PE X (.Name x px) (tVar k)) (he : ED B X e fe) (hi : BD B X i fi) (hs : swapsWithSole [.Subscript (.Name x px) i pt] e pos.line X.env = pure false := by rfl) (hw : swappedStores [.Subscript (.Name x px) i pt] e X.env = pure none := by rfl)
    (h1 : (assignEach [.Subscript (.Name x px) i pt] X.env).map (·.2) = [assign (.Subscript (.Name x px) i pt) X.env] := by rfl)
    (ha : ∀ v, assign (.Subscript (.Name x px) i pt) X.env v = (do
      let ov ← holding [v] (eval (.Name x px) X.env)
      let iv ← holding [v, ov] (eval i X.env)
      standAt pt
      holding [v, ov, iv] (setItem ov iv v)
      release [v, ov, iv] []) := by intro _; rfl) : SD B X (.Assign [.Subscript (.Name x px) i pt] e pos) (gSetI k fe fi) :=
  ⟨ps_imp (ps_asg he.run (pg_sub hv hi.run set_list ha) hs hw h1) fun Dn s H ⟨σ, F, E, R, ⟨xs, eo, q⟩, kk⟩ => by
    obtain ⟨a, _, s1, _⟩ := R.ownL eo
    exact ⟨σ, F, _, R, q, fun d qd F1 H1 v g1 d1 r1 => ⟨.ref a, s1, σ, F1, _, R.grow g1 d1, qd, fun d2 ⟨i, j, e2, hj, qn⟩ F2 H2 u g2 dk2 r2 => by
      subst e2
      have R2 := R.grow (g1.trans g2) dk2
      obtain ⟨a', vs, s2, h2, h3, h4, h5, h6⟩ := R2.ownL eo
      rw [s1] at s2
      cases s2
      refine ⟨a, vs, i, j, rfl, r2.int, h2, by rw [h3.length]; exact hj, ?_⟩
      exact kk.nx _ _ F2 _ (g1.ff.trans g2.ff) (R2.write eo (.inl ⟨_, rfl⟩) s1 (x := .ol (xs.set j d)) ⟨rfl, _, upd_same, h3.set (r1.mono g2.ff) j⟩) qn⟩⟩⟩
/-- xs[i] op= e, ints -/
theorem getItem_lst {X : Cx} : PGet X (rIxL X.K) := fun pins s σ H o i ov iv Q I eo ei ⟨a, xs, k, z, ea, ek, stands, found, q⟩ => by
  subst ea ek
  obtain ⟨t, rfl⟩ := ei
  cases eo
  obtain ⟨its, same, plain, _⟩ := I.list stands
  obtain ⟨j, place, item, _, low, high⟩ := atI_get found
  obtain ⟨w, ew, is⟩ := same.get item
  have cnt := same.length
  have top := line63
  have at_j : its.toArray[j]? = some w := by simpa using ew
  rcases Int.lt_or_le k 0 with neg | pos
  · rw [seqIndex_neg neg low] at place
    have e : (k + (its.toArray.size : Int)).toNat = j := by
      rw [List.size_toArray, ← cnt]
      exact Option.some.inj place
    exact wpAny_getItem_list_neg plain.isList neg (by rw [List.size_toArray] <;> omega) (by omega) (e ▸ at_j) ⟨z, H, I, is, q⟩
  · rw [seqIndex_of pos high] at place
    exact wpAny_getItem_list plain.isList pos (by omega) (Option.some.inj place ▸ at_j) ⟨z, H, I, is, q⟩
def gAugI (k : Nat) (gop : D → D → (D → Prop) → Prop) (fi fe : GE) : GS := fun E σ => ∃ xs, σ[k]? = some (.ol xs) ∧ fi σ fun d => ∃ i j x, d = .int i ∧ ixN xs.length i = some j ∧ xs[j]? = some x ∧ fe σ fun y => gop x y fun z => E.nx (σ.set k (.ol (xs.set j z)))
theorem sd_augI {k : Nat} {x : Str} {i : Expr} {op : Operator} {gop : D → D → (D → Prop) → Prop} {px pt : Pos} {fe fi : GE} (hv : PE X (.Name x px) (tVar k)) (hi : BD B X i fi) (he : BD B X e fe) (ho : OpR X (inplaceOp op) (LO2 B X.kn gop))
    (ha : ∀ ov iv new, augStore i ov iv new = (do holding [new, ov, iv] (setItem ov iv new); release [new, ov, iv] []; pure .next) := by intros; rfl) : SD B X (.AugAssign (.Subscript (.Name x px) i pt) op e pos) (gAugI k gop fi fe) :=
  ⟨ps_imp (ps_augS hv hi.run getItem_lst he.run (tip := LO2 B X.kn gop) ho set_list ha) fun Dn s H ⟨σ, F, E, R, ⟨xs, eo, q⟩, kk⟩ => by
    obtain ⟨a, _, s1, _⟩ := R.ownL eo
    refine ⟨.ref a, s1, σ, F, _, R, q, fun d1 ⟨i, j, z, e1, hj, hz, q1⟩ F1 H1 u g1 d1 r1 => ?_⟩
    subst e1
    have R1 := R.grow g1 d1
    obtain ⟨a', vs, s2, h2, h3, h4, h5, h6⟩ := R1.ownL eo
    rw [s1] at s2
    cases s2
    obtain ⟨zv, hzv, rz⟩ := h3.get hz
    have hat : L2.atI vs i = some zv := by
      unfold L2.atI
      rw [h3.length, hj]
      exact hzv
    refine ⟨a, vs, i, zv, rfl, r1.int, SqL.of h2, hat, σ, F1, _, R1, q1, fun y qy F2 H2 w g2 dk2 r2 => ?_⟩
    refine ⟨F2, z, y, _, g2.fh, dk2, .inl (rz.mono g2.ff), r2, qy, fun z' qz F3 H3 w3 g3 dk3 r3 => ?_⟩
    have R3 := R1.grow (g2.trans g3) dk3
    obtain ⟨a', vs3, s3, k2, k3, k4, k5, k6⟩ := R3.ownL eo
    rw [s1] at s3
    cases s3
    refine ⟨a, vs3, i, j, rfl, r1.int, k2, by rw [k3.length]; exact hj, ?_⟩
    exact kk.nx _ _ F3 _ ((g1.ff.trans g2.ff).trans g3.ff) (R3.write eo (.inl ⟨_, rfl⟩) s1 (x := .ol (xs.set j z')) ⟨rfl, _, upd_same, k3.set r3 j⟩) qz⟩
/-- xs.append(e) -/
def gApp (k : Nat) (fe : GE) : GS := fun E σ => ∃ xs, σ[k]? = some (.ol xs) ∧ fe σ fun x => xs.length < sizeLine ∧ E.nx (σ.set k (.ol (xs ++ [x])))
theorem sd_app {k : Nat} {x : Str} {px apos cpos : Pos} {fe : GE} (h : PE X (.Call (.Attribute (.Name x px) "append" apos) [e] [] cpos) (tBM X.K "list" rAppend (tVar k) (tCons (LE B X.kn fe) tNil))) (hs : swapsWith (.Call (.Attribute (.Name x px) "append" apos) [e] [] cpos) none pos.line X.env = pure false := by rfl) :
    SD B X (.Expr (.Call (.Attribute (.Name x px) "append" apos) [e] [] cpos) pos) (gApp k fe) :=
  ⟨ps_imp (ps_expr h hs) fun Dn s H ⟨σ, F, E, R, ⟨xs, eo, q⟩, kk⟩ => by
    obtain ⟨a, _, s1, h1, _⟩ := R.ownL eo
    refine ⟨.ref a, s1, .inl ⟨rfl, _, .inl (.inl h1)⟩, σ, F, _, R, q, fun d ⟨hz, qd⟩ F1 H1 v g1 d1 r1 => ?_⟩
    have R1 := R.grow g1 d1
    obtain ⟨a', vs, s2, h2, h3, h4, h5, h6⟩ := R1.ownL eo
    rw [s1] at s2
    cases s2
    exact ⟨a, vs, v, rfl, rfl, h2, by rw [h3.length]; exact hz, kk.nx _ _ F1 _ g1.ff (R1.write eo (.inl ⟨_, rfl⟩) s1 (x := .ol (xs ++ [d])) ⟨rfl, _, upd_same, h3.append (.cons r1 .nil)⟩) qd⟩⟩

/-! ### while -/
/-- an invariant with a measure -/
def gWhile (ft : GT) (g : GS) : GS := fun E σ => ∃ I : Nat → List SV → Prop, (∃ m, I m σ) ∧ ∀ m σ', I m σ' → ft σ' fun b => if b = true then g { E with nx := fun σ2 => ∃ m', m' < m ∧ I m' σ2, ct := fun σ2 => ∃ m', m' < m ∧ I m' σ2, bk := E.nx } σ' else E.nx σ'
theorem sd_while (hp : PassesOwn (model X.prog X.w) X.A X.env X.xe) (hc : TD B X c ft) (hb : SDs B X sts g) : SD B X (.While c sts [] pos) (gWhile ft g) :=
  ⟨ps_imp (ps_while hp hc.run hb.run) fun Dn s H ⟨σ, F, E, R, ⟨I, ⟨m0, h0⟩, q⟩, kk⟩ => by
    refine ⟨fun m s' H' => ∃ σ' F', Same F F' ∧ Rel B X.kn σ' s' F' H' ∧ I m σ', ⟨m0, σ, F, Same.refl F, R, h0⟩, ?_⟩
    rintro m s' H' ⟨σ', F', e', R', i'⟩
    refine ⟨σ', F', _, R', q m σ' i', fun b qb F2 H2 g2 dk2 => ?_⟩
    have R2 := R'.grow g2 dk2
    cases b with
    | true =>
      refine ⟨fun s3 H3 => ∃ σ3 F3, Same F F3 ∧ Rel B X.kn σ3 s3 F3 H3 ∧ ∃ m', m' < m ∧ I m' σ3, ?_, σ', F2, _, R2, qb, ?_⟩
      · rintro s3 H3 ⟨σ3, F3, e3, R3, m', hm, i3⟩
        exact ⟨m', hm, σ3, F3, e3, R3, i3⟩
      · have eF := e'.trans g2.ff
        exact ⟨fun σ3 s3 F3 H3 a r q3 => ⟨σ3, F3, eF.trans a, r, q3⟩, kk.rt, fun σ3 s3 F3 H3 a r q3 => kk.nx σ3 s3 F3 H3 (eF.trans a) r q3, fun σ3 s3 F3 H3 a r q3 => ⟨σ3, F3, eF.trans a, r, q3⟩⟩
    | false => exact kk.nx σ' s' F2 H2 (e'.trans g2.ff) R2 qb⟩

/-! ### for -/
/-- J gives the items ds -/
structure ItOk (B : Bs) (K : Kn) (J : It) (ds : List D) (F : Hp) : Prop where
  go : ∀ (F' H' : Hp) i d, Same F F' → Same F' H' → DeckIn B.W F' H' → ds[i]? = some d → J.go i H' ∧ ∀ x H'', J.yld i H' x H'' → ∃ F'', Grow B.W F' H' F'' H'' ∧ DeckIn B.W F'' H'' ∧ Rep K F'' x d
  stop : ∀ (F' H' : Hp) i, Same F F' → Same F' H' → ds.length ≤ i → J.stop i H'
def LI (B : Bs) (K : Kn) (f : GA) : TI := fun s H R => ∃ σ F Qd, Rel B K σ s F H ∧ f σ Qd ∧ ∀ ds, Qd ds → ∀ F' H' J, Grow B.W F H F' H' → DeckIn B.W F' H' → ItOk B K J ds F' → R J H'
structure PID (B : Bs) (X : Cx) (tg iter : Expr) (f : GA) : Prop where
  run : PI X tg iter (LI B X.kn f)
theorem pi_imp {tg : Expr} {t t' : TI} (h : PI X tg e t) (w : ∀ s H R, t' s H R → t s H R) : PI X tg e t' := ⟨fun pins s σ H R I q => h.run pins s σ H R I (w _ _ _ q)⟩
theorem itOk_list {K : Kn} {a : Addr} {vs : List V} {ds : List D} {F : Hp} (h : F a = some (.lst vs)) (r : Reps K F vs ds) : ItOk B K (Itl K.K a) ds F := by
  refine ⟨fun F' H' i d e1 e2 dk hd => ?_, fun F' H' i e1 e2 hi => ⟨vs, SqL.of (e2 _ _ (e1 _ _ h)), by rw [r.length]; exact hi⟩⟩
  have ha : H' a = some (.lst vs) := e2 _ _ (e1 _ _ h)
  obtain ⟨v, hv, rv⟩ := r.get hd
  refine ⟨⟨vs, v, SqL.of ha, hv⟩, fun x H'' ⟨e, f⟩ => ?_⟩
  subst e
  have := f vs (SqL.of ha)
  rw [hv] at this
  cases this
  exact ⟨F', Grow.refl e2, dk, rv.mono e1⟩
theorem itOk_tup {K : Kn} {a : Addr} {vs : List V} {ds : List D} {F : Hp} (h : SqT K.K F a vs) (r : Reps K F vs ds) : ItOk B K (Itt K.K a) ds F := by
  refine ⟨fun F' H' i d e1 e2 dk hd => ?_, fun F' H' i e1 e2 hi => ⟨vs, same_t e2 (same_t e1 h), by rw [r.length]; exact hi⟩⟩
  have ha : SqT K.K H' a vs := same_t e2 (same_t e1 h)
  obtain ⟨v, hv, rv⟩ := r.get hd
  refine ⟨⟨vs, v, ha, hv⟩, fun x H'' ⟨e, f⟩ => ?_⟩
  subst e
  have := f vs ha
  rw [hv] at this
  cases this
  exact ⟨F', Grow.refl e2, dk, rv.mono e1⟩
def intsFrom (lo : Int) (n : Nat) : List D := (List.range n).map fun (i : Nat) => D.int (lo + (i : Int))
theorem itOk_range {K : Kn} {lo : Int} {n : Nat} {F : Hp} : ItOk B K (Itr lo n) (intsFrom lo n) F := by
  refine ⟨fun F' H' i d e1 e2 dk hd => ?_, fun F' H' i e1 e2 hi => by (show n ≤ i); simpa [intsFrom] using hi⟩
  unfold intsFrom at hd
  rw [List.getElem?_map] at hd
  have hi : i < n := by
    have := (List.getElem?_eq_some_iff.mp (Option.map_eq_some_iff.mp hd).choose_spec.1).1
    simpa using this
  refine ⟨hi, fun x H'' ⟨e, f⟩ => ?_⟩
  subst e f
  rw [List.getElem?_range hi] at hd
  cases hd
  exact ⟨F', Grow.refl e2, dk, .int _⟩
/-- for x in e, e data: a list, a tuple -/
@[simp] def gIter (fa : GE) (σ : List SV) (Q : List D → Prop) : Prop := fa σ fun d => match d with | .tup xs => Q xs | .lst xs => Q xs | _ => False
theorem pid_data {tg : Expr} (ha : ED B X e fa) : PID B X tg e (gIter fa) := ⟨⟨fun pins s σv H R I ⟨σ, F, Qd, Rl, q, k⟩ => by
  refine thn (ha.run.run pins s σv H (fun v H1 => ∃ d F1, Grow B.W F H F1 H1 ∧ DeckIn B.W F1 H1 ∧ Rep X.kn F1 v d ∧ match d with | .tup xs => Qd xs | .lst xs => Qd xs | _ => False) I ⟨σ, F, _, Rl, q, fun d qd F1 H1 v g1 d1 r1 => ⟨d, F1, g1, d1, r1, qd⟩⟩) fun v s1 ⟨x, H1, I1, r1, d, F1, g1, d1, rd, qd⟩ => ?_
  cases rd with
  | tup h r =>
    cases r1
    obtain ⟨its, rv, p, hz⟩ := I1.tuple (same_t g1.fh h)
    refine wpAny_pyIter_tuple (show s1.heap.IsTuple _ its.toArray from p) ?_
    refine ⟨s1.heap.objs.size, [s1.heap.objs.size], _, _, H1, rfl, I1.kept (t' := s1.toks) fun b o e => Heap.get?_push_of_some _ e, turn_tuple _ _, ⟨_, Heap.get?_push_size _ rfl, rfl, rfl⟩, fun b hb => ?_, k _ qd F1 H1 _ g1 d1 (itOk_tup h r)⟩
    have e : b = s1.heap.objs.size := by simpa using hb
    subst e
    exact I1.fpOk (Nat.le_refl _) (I1.hok.fresh (Nat.le_refl _))
  | lst h r =>
    cases r1
    obtain ⟨its, rv, p, hz⟩ := I1.list (SqL.of (g1.fh _ _ h))
    refine wpAny_pyIter_list p.isList ?_
    refine ⟨s1.heap.objs.size, [s1.heap.objs.size], _, _, H1, rfl, I1.kept (t' := s1.toks) fun b o e => Heap.get?_push_of_some _ e, turn_list _ _, ⟨_, Heap.get?_push_size _ rfl, rfl, rfl⟩, fun b hb => ?_, k _ qd F1 H1 _ g1 d1 (itOk_list h r)⟩
    have e : b = s1.heap.objs.size := by simpa using hb
    subst e
    exact I1.fpOk (Nat.le_refl _) (I1.hok.fresh (Nat.le_refl _))
  | _ => exact False.elim qd⟩⟩
/-- range(n), range(a, b) -/
def rng1D (ds : List D) (Q : List D → Prop) : Prop := ∃ j, ds = [.int j] ∧ -(2 ^ 62) ≤ j ∧ j < 2 ^ 62 ∧ Q (intsFrom 0 j.toNat)
@[simp] theorem rng1D_i (j : Int) (Q : List D → Prop) : rng1D [.int j] Q ↔ -(2 ^ 62) ≤ j ∧ j < 2 ^ 62 ∧ Q (intsFrom 0 j.toNat) := ⟨fun ⟨_, e, q⟩ => by cases e; exact q, fun q => ⟨j, rfl, q⟩⟩
def rng2D (ds : List D) (Q : List D → Prop) : Prop := ∃ i j, ds = [.int i, .int j] ∧ (-(2 ^ 62) ≤ i ∧ i < 2 ^ 62 ∧ -(2 ^ 62) ≤ j ∧ j < 2 ^ 62) ∧ Q (intsFrom i (j - i).toNat)
@[simp] theorem rng2D_i (i j : Int) (Q : List D → Prop) : rng2D [.int i, .int j] Q ↔ (-(2 ^ 62) ≤ i ∧ i < 2 ^ 62 ∧ -(2 ^ 62) ≤ j ∧ j < 2 ^ 62) ∧ Q (intsFrom i (j - i).toNat) := ⟨fun ⟨_, _, e, q⟩ => by cases e; exact q, fun q => ⟨i, j, rfl, q⟩⟩
@[simp] def gRng1 (fs : GA) (σ : List SV) (Q : List D → Prop) : Prop := fs σ fun ds => rng1D ds Q
@[simp] def gRng2 (fs : GA) (σ : List SV) (Q : List D → Prop) : Prop := fs σ fun ds => rng2D ds Q
theorem pid_rng1 {tg : Expr} {p : Pos} {fs : GA} (hg : Gl X "range") (hm : X.mg "range" = none) (ha : AD B X [a] fs) (hs : starEach [a] X.env = [(false, eval a X.env)] := by rfl) : PID B X tg (.Call (.Name "range" p) [a] [] pos) (gRng1 fs) :=
  ⟨pi_imp (pi_range1 hg hm ha.run hs) fun s H R ⟨σ, F, Qd, Rl, q, k⟩ => ⟨σ, F, _, Rl, q, fun ds ⟨j, e, h1, h2, qd⟩ F1 H1 vs g1 d1 r1 => by
    subst e
    cases r1 with
    | cons r t =>
      cases r
      cases t
      exact ⟨j, rfl, h1, h2, k _ qd F1 H1 _ g1 d1 itOk_range⟩⟩⟩
theorem pid_rng2 {tg : Expr} {p : Pos} {fs : GA} (hg : Gl X "range") (hm : X.mg "range" = none) (ha : AD B X [a, b] fs) (hs : starEach [a, b] X.env = [(false, eval a X.env), (false, eval b X.env)] := by rfl) (hs2 : starEach [b] X.env = [(false, eval b X.env)] := by rfl) : PID B X tg (.Call (.Name "range" p) [a, b] [] pos) (gRng2 fs) :=
  ⟨pi_imp (pi_range2 hg hm ha.run hs hs2) fun s H R ⟨σ, F, Qd, Rl, q, k⟩ => ⟨σ, F, _, Rl, q, fun ds ⟨i, j, e, h1, qd⟩ F1 H1 vs g1 d1 r1 => by
    subst e
    cases r1 with
    | cons r t =>
      cases r
      cases t with
      | cons r t =>
        cases r
        cases t
        exact ⟨i, j, rfl, h1, k _ qd F1 H1 _ g1 d1 itOk_range⟩⟩⟩
/-- the target of a for: a name, a tuple of names -/
abbrev GG := D → List SV → (List SV → Prop) → Prop
structure GD (B : Bs) (X : Cx) (tg : Expr) (gt : GG) : Prop where
  run : ∃ t, PG X tg t ∧ ∀ d v σ s F H (Qd : List SV → Prop) (Q : L2.St → Hp → Prop), Rel B X.kn σ s F H → Rep X.kn F v d → gt d σ Qd → (∀ σ' s', Rel B X.kn σ' s' F H → Qd σ' → Q s' H) → t v s H Q
@[simp] def ggName (i : Nat) (d : D) (σ : List SV) (Q : List SV → Prop) : Prop := Q (σ.set i (.d d))
@[simp] def ggTup (is : List Nat) (d : D) (σ : List SV) (Q : List SV → Prop) : Prop := unT is.length d fun ds => Q (setAll is ds σ)
theorem gd_name {i : Nat} {x : Str} (h : PG X (.Name x pos) (gName i)) : GD B X (.Name x pos) (ggName i) := ⟨_, h, fun d v σ s F H Qd Q R r q k => k _ _ (R.set r) q⟩
theorem gd_tup {is : List Nat} {ts : List Expr} {kt : Nat} (hc : X.calm = true) (hn : NamesAt X ts is) (hl : (assignEach ts X.env).length = is.length := by rfl) (hst : (assignEach ts X.env).findIdx? (·.1) = none := by rfl) : GD B X (.Tuple ts kt pos) (ggTup is) :=
  ⟨_, pg_tup hc hn.run hl hst, fun d v σ s F H Qd Q R r ⟨ds, e, hl, q⟩ k => by
    subst e
    cases r with
    | tup h r => exact ⟨_, _, rfl, same_t R.ex h, by rw [r.length]; exact hl, by rw [r.length]; exact hl, k _ _ (R.sets r) q⟩⟩
def forG (gt : GG) (g : GS) : List D → Ed → List SV → Prop
  | [], E, σ => E.nx σ
  | d :: ds, E, σ => gt d σ fun σ' => g { E with nx := forG gt g ds E, ct := forG gt g ds E, bk := E.nx } σ'
@[simp] def gFor (fi : GA) (gt : GG) (g : GS) (E : Ed) (σ : List SV) : Prop := fi σ fun ds => forG gt g ds E σ
theorem sd_for {tg iter : Expr} {fi : GA} {gt : GG} (hp : PassesOwn (model X.prog X.w) X.A X.env X.xe) (hc : X.calm = true) (hi : PID B X tg iter fi) (hg : GD B X tg gt) (hb : SDs B X sts g) (hs : ∀ x, foldedSetIterable iter X.env x = pure x := by intro _; rfl) : SD B X (.For tg iter sts [] pos) (gFor fi gt g) := by
  obtain ⟨t, ht, hgt⟩ := hg.run
  refine ⟨ps_imp (ps_for hp hc hi.run ht hb.run hs) fun Dn s H ⟨σ, F, E, R, q, kk⟩ => ⟨σ, F, _, R, q, fun ds qd F1 H1 J g1 d1 ok => ?_⟩⟩
  have R1 := R.grow g1 d1
  refine ⟨fun i m s' H' => m = ds.length - i ∧ ∃ σ' F', Same F1 F' ∧ Rel B X.kn σ' s' F' H' ∧ forG gt g (ds.drop i) E σ', ⟨ds.length, rfl, σ, F1, Same.refl F1, R1, by simpa using qd⟩, ?_⟩
  rintro i m s' H' ⟨rfl, σ', F', e', R', q'⟩
  by_cases hlt : i < ds.length
  · obtain ⟨hgo, hy⟩ := ok.go F' H' i ds[i] e' R'.ex R'.deck (by simp [hlt])
    rw [List.drop_eq_getElem_cons hlt] at q'
    refine .inr ⟨hgo, fun s3 H3 => ∃ σ3 F3, Same F1 F3 ∧ Rel B X.kn σ3 s3 F3 H3 ∧ forG gt g (ds.drop (i + 1)) E σ3, fun s3 H3 z => ⟨ds.length - (i + 1), by omega, rfl, z⟩, fun x H2 hx => ?_⟩
    obtain ⟨F2, g2, d2, r2⟩ := hy x H2 hx
    have R2 := R'.grow g2 d2
    refine hgt ds[i] x σ' s' F2 H2 _ _ R2 r2 q' fun σ3 s3 R3 q3 => ⟨σ3, F2, _, R3, q3, ?_⟩
    have eF := e'.trans g2.ff
    exact ⟨fun σ4 s4 F4 H4 a r q4 => ⟨σ4, F4, eF.trans a, r, q4⟩, kk.rt, fun σ4 s4 F4 H4 a r q4 => kk.nx σ4 s4 F4 H4 (g1.ff.trans (eF.trans a)) r q4, fun σ4 s4 F4 H4 a r q4 => ⟨σ4, F4, eF.trans a, r, q4⟩⟩
  · rw [List.drop_eq_nil_of_le (by omega)] at q'
    exact .inl ⟨ok.stop F' H' i e' R'.ex (by omega), kk.nx σ' s' F' H' (g1.ff.trans e') R' q'⟩
end
end ND

/-! ND6: comprehensions, built-in functions -/
namespace ND
open PySem PySem.Spec L2
open PyProof.Rows (envOfC)

/-! ### lists by comprehension -/
@[simp] def wipeD (σ : List SV) : List Nat → List SV
  | [] => σ
  | v :: vs => (wipeD σ vs).set v .no
theorem Rel.wipe {B : Bs} {K : Kn} {σ : List SV} {s : L2.St} {F H : Hp} (R : Rel B K σ s F H) : ∀ vs : List Nat, Rel B K (wipeD σ vs) (L2.wipe s vs) F H
  | [] => R
  | v :: vs => (Rel.wipe R vs).drop
theorem set_set_ne {α : Type} {l : List α} {i j : Nat} {a b : α} (h : i ≠ j) : (l.set i a).set j b = (l.set j b).set i a := List.set_comm a b h
theorem wipe_set {s : L2.St} {i : Nat} {v : Option V} : ∀ {vs : List Nat}, i ∈ vs → L2.wipe (s.set i v) vs = L2.wipe s vs
  | w :: vs, h => by
    unfold L2.wipe
    by_cases e : i ∈ vs
    · rw [wipe_set e]
    · have e2 : i = w := by
        rcases List.mem_cons.mp h with h | h
        · exact h
        · exact absurd h e
      subst e2
      have key : ∀ (us : List Nat), i ∉ us → L2.wipe (s.set i v) us = (L2.wipe s us).set i v := by
        intro us
        induction us with
        | nil => intro _; rfl
        | cons u us ih =>
          intro hu
          unfold L2.wipe
          rw [ih (fun z => hu (List.mem_cons_of_mem _ z)), set_set_ne (fun z => hu (by rw [z]; exact List.mem_cons_self))]
      rw [key vs e, List.set_set]
theorem wipe_idem (s : L2.St) : ∀ vs : List Nat, L2.wipe (L2.wipe s vs) vs = L2.wipe s vs := by
  have key : ∀ (ws vs : List Nat), (∀ i ∈ ws, i ∈ vs) → L2.wipe (L2.wipe s ws) vs = L2.wipe s vs := by
    intro ws
    induction ws with
    | nil => intro vs _; rfl
    | cons w ws ih =>
      intro vs h
      show L2.wipe ((L2.wipe s ws).set w none) vs = _
      rw [wipe_set (h w List.mem_cons_self)]
      exact ih vs fun i hi => h i (List.mem_cons_of_mem _ hi)
  exact fun vs => key vs vs fun _ h => h
theorem wipe_sets {own : List Nat} : ∀ {is : List Nat} {vs : List V} {s : L2.St}, (∀ i ∈ is, i ∈ own) → L2.wipe (setAllV is vs s) own = L2.wipe s own
  | [], _, _, _ => rfl
  | _ :: _, [], _, _ => rfl
  | i :: is, v :: vs, s, h => by
    show L2.wipe (setAllV is vs (s.set i (some v))) own = _
    rw [wipe_sets fun j hj => h j (List.mem_cons_of_mem _ hj), wipe_set (h i List.mem_cons_self)]
/-- a comprehension's target -/
structure CTg (B : Bs) (K : Kn) (own : List Nat) (t : TG) (gt : GG) : Prop where
  run : ∀ d v σ s F H (Qd : List SV → Prop) (Q : L2.St → Hp → Prop), Rel B K σ s F H → Rep K F v d → gt d σ Qd → (∀ σ' s', Rel B K σ' s' F H → L2.wipe s' own = L2.wipe s own → Qd σ' → Q s' H) → t v s H Q
section
variable {B : Bs} {X : Cx} {K : Kn} {own : List Nat}
theorem ct_name {i : Nat} (h : i ∈ own) : CTg B K own (gName i) (ggName i) := ⟨fun d v σ s F H Qd Q R r q k => k _ _ (R.set r) (wipe_set h) q⟩
abbrev tgNames (K : PySem.W.Frag) (is : List Nat) : TG := L2.gTup K is.length fun vs σ H Q => vs.length = is.length ∧ Q (setAllV is vs σ) H
theorem ct_tup {is : List Nat} (h : ∀ i ∈ is, i ∈ own) : CTg B K own (tgNames K.K is) (ggTup is) := ⟨fun d v σ s F H Qd Q R r ⟨ds, e, hl, q⟩ k => by
  subst e
  cases r with
  | tup h' r => exact ⟨_, _, rfl, same_t R.ex h', by rw [r.length]; exact hl, by rw [r.length]; exact hl, k _ _ (R.sets r) (wipe_sets h) q⟩⟩
theorem pg_names {is : List Nat} {ts : List Expr} {kt : Nat} {pos : Pos} (hc : X.calm = true) (hn : NamesAt X ts is) (hl : (assignEach ts X.env).length = is.length := by rfl) (hst : (assignEach ts X.env).findIdx? (·.1) = none := by rfl) : PG X (.Tuple ts kt pos) (tgNames X.K is) := pg_tup hc hn.run hl hst
structure TDs (B : Bs) (X : Cx) (ifs : List Expr) (f : GT) : Prop where
  run : PTs X ifs (LT B X.kn f)
@[simp] def gYes (_ : List SV) (Q : Bool → Prop) : Prop := Q true
theorem tds_nil : TDs B X [] gYes := ⟨⟨fun pins s σ H Q I ⟨σ', F, Qd, R, q, k⟩ => pts_nil.run pins s σ H Q I (k _ q F H (Grow.refl R.ex) R.deck)⟩⟩
theorem tds_one {c : Expr} {ft : GT} (h : TD B X c ft) : TDs B X [c] ft := ⟨pts_one h.run⟩
def lcG (gt : GG) (ft : GT) (fe : GE) (own : List Nat) (σ : List SV) (Q : List D → Prop) : List D → List D → Prop
  | [], acc => Q acc
  | d :: ds, acc => gt d (wipeD σ own) fun σ2 => ft σ2 fun b => if b = true then fe σ2 fun y => acc.length < sizeLine ∧ lcG gt ft fe own σ Q ds (acc ++ [y]) else lcG gt ft fe own σ Q ds acc
@[simp] def gLc (fi : GA) (gt : GG) (ft : GT) (fe : GE) (own : List Nat) (σ : List SV) (Q : List D → Prop) : Prop := fi σ fun ds => lcG gt ft fe own σ Q ds []
theorem Grow.write {W : WD} {F H F' H' : Hp} {p : Addr} {o : HO} (g : Grow W F H F' H') (hp : H p = none) (fp : F' p = none) : Grow W F H F' (upd H' p o) :=
  ⟨g.ff, fun a u e => by
    rw [upd_ne fun z => by rw [z, fp] at e; cases e]
    exact g.fh a u e, fun a u e w => by
    rw [upd_ne fun z => by rw [z, hp] at e; cases e]
    exact g.hh a u e w, g.new, fun a e => upd_keep (g.keep a e)⟩
theorem DeckIn.write {W : WD} {F H F' H' : Hp} {p : Addr} {o : HO} (d0 : DeckIn W F H) (d : DeckIn W F' H') (hp : H p = none) : DeckIn W F' (upd H' p o) :=
  d.keep (fun _ _ => rfl) fun a w => upd_ne fun z => (d0.w w).2 (by rw [z]; exact hp)
theorem lc_run {fi : GA} {gt : GG} {ft : GT} {fe : GE} {t : TG} {own : List Nat} {s : L2.St} {H : Hp} {Q : VK} (ct : CTg B K own t gt) (h : LF B K (gLc fi gt ft fe own) s H Q) : tLc (LI B K fi) t (LT B K ft) (LE B K fe) own s H Q := by
  obtain ⟨σ, F, Qd, R, q, k⟩ := h
  refine ⟨σ, F, _, R, q, fun ds qds F1 H1 J g1 d1 okJ L hL => ?_⟩
  refine ⟨fun i m H' => m = ds.length - i ∧ ∃ F' acc vs, Grow B.W F1 H1 F' H' ∧ DeckIn B.W F' H' ∧ F' L = none ∧ H' L = some (.lst vs) ∧ Reps K F' vs acc ∧ lcG gt ft fe own σ Qd (ds.drop i) acc, ⟨ds.length, rfl, F1, [], [], Grow.laid g1.fh hL, d1.laid hL, g1.fh.free hL, upd_same, .nil, by simpa using qds⟩, ?_⟩
  rintro i m H' ⟨rfl, F', acc, vs, g', dk', fL, hv, rv, q'⟩
  by_cases hlt : i < ds.length
  · obtain ⟨hgo, hy⟩ := okJ.go F' H' i ds[i] g'.ff g'.fh dk' (by simp [hlt])
    rw [List.drop_eq_getElem_cons hlt] at q'
    refine .inr ⟨hgo, fun H3 => ∃ F3 acc3 vs3, Grow B.W F1 H1 F3 H3 ∧ DeckIn B.W F3 H3 ∧ F3 L = none ∧ H3 L = some (.lst vs3) ∧ Reps K F3 vs3 acc3 ∧ lcG gt ft fe own σ Qd (ds.drop (i + 1)) acc3, fun H3 z => ⟨ds.length - (i + 1), by omega, rfl, z⟩, fun x H2 hx => ?_⟩
    obtain ⟨F2, g2, d2, r2⟩ := hy x H2 hx
    have R2 := ((R.grow g1 d1).grow (g'.trans g2) d2).wipe own
    have nW : ¬ InW B.W L := fun w => (d1.w w).2 hL
    have key : ∀ {F3 H3 : Hp}, Grow B.W F' H' F3 H3 → F3 L = none ∧ H3 L = some (.lst vs) := fun {F3 H3} g3 => ⟨g3.new L fL (by rw [hv]; exact Option.some_ne_none _), g3.hh L _ hv nW⟩
    refine ct.run ds[i] x _ _ F2 H2 _ _ R2 r2 q' fun σ3 s3 R3 hw q3 => ⟨by rw [hw]; exact wipe_idem _ _, σ3, F2, _, R3, q3, fun b qb F3 H3 g3 d3 => ?_⟩
    cases b with
    | false =>
      have g23 := g2.trans g3
      exact ⟨F3, acc, vs, g'.trans g23, d3, (key g23).1, (key g23).2, rv.mono g23.ff, by simpa using qb⟩
    | true =>
      refine ⟨σ3, F3, _, R3.grow g3 d3, qb, fun y ⟨hz, qy⟩ F4 H4 v g4 d4 r4 => ?_⟩
      have g24 := (g2.trans g3).trans g4
      have rv4 := rv.mono g24.ff
      exact ⟨vs, (key g24).2, by rw [rv.length]; exact hz, F4, acc ++ [y], vs ++ [v], (g'.trans g24).write hL (key g24).1, d1.write d4 hL, (key g24).1, upd_same, rv4.append (.cons r4 .nil), qy⟩
  · rw [List.drop_eq_nil_of_le (by omega)] at q'
    exact .inl ⟨okJ.stop F' H' i g'.ff g'.fh (by omega), k acc q' F' H' L vs (g1.trans g') dk' (g1.back hL) fL hv rv⟩
theorem fd_lc {elt tg iter : Expr} {ifs : List Expr} {scope : Scope} {own : List (Str × Nat)} {pos : Pos} {fi : GA} {gt : GG} {ft : GT} {fe : GE} {t : TG} (hc : X.calm = true) (hN : X.N.Nodup) (hi : PID B X tg iter fi) (ok : BlkOk X.N X.env.scope scope own)
    (ct : CTg B X.kn (own.map (·.2)) t gt) (hg : ∀ (s : Shared) (H : Hp) (C : Addr) (cl : List (Str × Addr)) (fp : List Addr), PG (X.blk s H scope (compEnvC scope cl C X.env) fp) tg t)
    (ht : ∀ (s : Shared) (H : Hp) (C : Addr) (cl : List (Str × Addr)) (fp : List Addr), TDs B (X.blk s H scope (compEnvC scope cl C X.env) fp) ifs ft)
    (he : ∀ (s : Shared) (H : Hp) (C : Addr) (cl : List (Str × Addr)) (fp : List Addr), ED B (X.blk s H scope (compEnvC scope cl C X.env) fp) elt fe) (hs : ∀ x, foldedSetIterable iter X.env x = pure x := by intro _; rfl) :
    FD B X (.ListComp elt [⟨tg, iter, ifs, 0⟩] scope pos) (gLc fi gt ft fe (own.map (·.2))) :=
  ⟨pe_imp (pe_lc (te := LE B X.kn fe) (tt := LT B X.kn ft) hc hN hi.run ok hg (fun s H C cl fp => (ht s H C cl fp).run) (fun s H C cl fp => (he s H C cl fp).run) hs) fun s H Q h => lc_run ct h⟩
/-- y = [..], a list of one's own, or data -/
theorem sd_setLcO {i : Nat} {y : Str} {py : Pos} {elt tg iter : Expr} {ifs : List Expr} {scope : Scope} {own : List (Str × Nat)} {pos spos : Pos} {fi : GA} {gt : GG} {ft : GT} {fe : GE} {t : TG} (hc : X.calm = true) (hN : X.N.Nodup) (hy : X.N[i]? = some y) (hyl : X.env.scope.names.lookup y = some .local)
    (hsw : swapsWith (.ListComp elt [⟨tg, iter, ifs, 0⟩] scope pos) (some (.Name y py)) spos.line X.env = pure true) (hi : PID B X tg iter fi) (ok : BlkOk X.N X.env.scope scope own)
    (ct : CTg B X.kn (own.map (·.2)) t gt) (hg : ∀ (s : Shared) (H : Hp) (C : Addr) (cl : List (Str × Addr)) (fp : List Addr), PG (X.blk s H scope (compEnvC scope cl C X.env) fp) tg t)
    (ht : ∀ (s : Shared) (H : Hp) (C : Addr) (cl : List (Str × Addr)) (fp : List Addr), TDs B (X.blk s H scope (compEnvC scope cl C X.env) fp) ifs ft)
    (he : ∀ (s : Shared) (H : Hp) (C : Addr) (cl : List (Str × Addr)) (fp : List Addr), ED B (X.blk s H scope (compEnvC scope cl C X.env) fp) elt fe) (hs : ∀ x, foldedSetIterable iter X.env x = pure x := by intro _; rfl) :
    SD B X (.Assign [.Name y py] (.ListComp elt [⟨tg, iter, ifs, 0⟩] scope pos) spos) (gSetL i (gLc fi gt ft fe (own.map (·.2)))) :=
  ⟨ps_imp (ps_setLc (te := LE B X.kn fe) (tt := LT B X.kn ft) hc hN hy hyl hsw hi.run ok hg (fun s H C cl fp => (ht s H C cl fp).run) (fun s H C cl fp => (he s H C cl fp).run) hs) fun Dn s H ⟨σ, F, E, R, q, k⟩ =>
    lc_run ct ⟨σ, F, _, R, q, fun ds qd F' H' p vs g dk hp fp ep r => k.nx _ _ F' H' g.ff (R.setNew (x := .ol ds) g dk hp fp ⟨rfl, vs, ep, r⟩) qd⟩⟩
theorem sd_setLc {i : Nat} {y : Str} {py : Pos} {elt tg iter : Expr} {ifs : List Expr} {scope : Scope} {own : List (Str × Nat)} {pos spos : Pos} {fi : GA} {gt : GG} {ft : GT} {fe : GE} {t : TG} (hc : X.calm = true) (hN : X.N.Nodup) (hy : X.N[i]? = some y) (hyl : X.env.scope.names.lookup y = some .local)
    (hsw : swapsWith (.ListComp elt [⟨tg, iter, ifs, 0⟩] scope pos) (some (.Name y py)) spos.line X.env = pure true) (hi : PID B X tg iter fi) (ok : BlkOk X.N X.env.scope scope own)
    (ct : CTg B X.kn (own.map (·.2)) t gt) (hg : ∀ (s : Shared) (H : Hp) (C : Addr) (cl : List (Str × Addr)) (fp : List Addr), PG (X.blk s H scope (compEnvC scope cl C X.env) fp) tg t)
    (ht : ∀ (s : Shared) (H : Hp) (C : Addr) (cl : List (Str × Addr)) (fp : List Addr), TDs B (X.blk s H scope (compEnvC scope cl C X.env) fp) ifs ft)
    (he : ∀ (s : Shared) (H : Hp) (C : Addr) (cl : List (Str × Addr)) (fp : List Addr), ED B (X.blk s H scope (compEnvC scope cl C X.env) fp) elt fe) (hs : ∀ x, foldedSetIterable iter X.env x = pure x := by intro _; rfl) :
    SD B X (.Assign [.Name y py] (.ListComp elt [⟨tg, iter, ifs, 0⟩] scope pos) spos) (gSet i (gFrz (gLc fi gt ft fe (own.map (·.2))))) :=
  ⟨ps_imp (ps_setLc (te := LE B X.kn fe) (tt := LT B X.kn ft) hc hN hy hyl hsw hi.run ok hg (fun s H C cl fp => (ht s H C cl fp).run) (fun s H C cl fp => (he s H C cl fp).run) hs) fun Dn s H ⟨σ, F, E, R, q, k⟩ =>
    lc_run ct ⟨σ, F, _, R, q, fun ds qd F' H' p vs g dk hp fp ep r =>
      k.nx _ _ (upd F' p (.lst vs)) H' (g.freeze hp fp ep).ff ((R.grow (g.freeze hp fp ep) (R.deck.freeze dk hp)).set (.lst upd_same (r.mono (same_new fp)))) qd⟩⟩
end
end ND

/-! ND7: built-in functions by data -/
namespace ND
open PySem PySem.Spec L2
open PyProof.Rows (envOfC)

/-- a built-in function of data -/
def LCa (B : Bs) (K : Kn) (g : List D → (D → Prop) → Prop) : List V → Hp → VK → Prop := fun vs H Q => ∃ F ds Qd, Same F H ∧ DeckIn B.W F H ∧ RepBs B.W K F H vs ds ∧ g ds Qd ∧ Fin B K F H Qd Q
@[simp] def gBlt (g : List D → (D → Prop) → Prop) (fs : GA) (σ : List SV) (Q : D → Prop) : Prop := fs σ fun ds => g ds Q
section
variable {B : Bs} {X : Cx} {e : Expr} {es : List Expr} {x : Str} {p pos : Pos} {fs : GA} {id T : String} {g : List D → (D → Prop) → Prop}
theorem callR_by {f : Value} {r' : List V → Hp → VK → Prop} (w : ∀ vs H Q, r' vs H Q → ∃ r, CallR X f r ∧ r vs H Q) : CallR X f r' := fun pins s σ H xs us Q I rx q => by
  obtain ⟨r, h, q'⟩ := w _ _ _ q
  exact h pins s σ H xs us Q I rx q'
theorem tcb_of {s : L2.St} {H : Hp} {Q : VK} (h : LE B X.kn (gBlt g fs) s H Q) : tCB (LCa B X.kn g) (LAB B X.kn fs) s H Q := by
  obtain ⟨σ, F, Qd, R, q, k⟩ := h
  exact ⟨σ, F, _, R, q, fun ds qd F1 H1 vs g1 d1 r1 => ⟨F1, ds, Qd, g1.fh, d1, r1, qd, k.more g1⟩⟩
theorem ed_callB (hc : CallR X (.builtin id) (LCa B X.kn g)) (hg : Gl X x) (hm : X.mg x = none) (hv : bootBuiltins x = some (.builtin id)) (ha : ABD B X (e :: es) fs) (hn : x ≠ "__name__" := by decide) (hdb : (x == ("__debug__" : Str)) = false := by decide)
    (he : starEach (e :: es) X.env = (false, eval e X.env) :: starEach es X.env := by rfl) (hpl : (backTo pos (starEach es X.env)).any (·.1) = false := by rfl) : ED B X (.Call (.Name x p) (e :: es) [] pos) (gBlt g fs) :=
  ⟨pe_imp (pe_callB hc hg hm hv ha.run hn hdb he hpl) fun s H Q h => tcb_of h⟩
theorem ed_callTy (hc : CallR X (.type T) (LCa B X.kn g)) (hg : Gl X x) (hm : X.mg x = none) (hv : bootBuiltins x = some (.type T)) (ha : ABD B X (e :: es) fs) (hn : x ≠ "__name__" := by decide) (hdb : (x == ("__debug__" : Str)) = false := by decide)
    (he : starEach (e :: es) X.env = (false, eval e X.env) :: starEach es X.env := by rfl) (hpl : (backTo pos (starEach es X.env)).any (·.1) = false := by rfl) : ED B X (.Call (.Name x p) (e :: es) [] pos) (gBlt g fs) :=
  ⟨pe_imp (pe_callTy hc hg hm hv ha.run hn hdb he hpl) fun s H Q h => tcb_of h⟩
/-- a module's name for a built-in function -/
theorem ed_callFun (hc : CallR X (.builtin id) (LCa B X.kn g)) (hg : Gl X x) (hm : X.mg x = some (.builtin id)) (ha : ABD B X (e :: es) fs) (hdb : (x == ("__debug__" : Str)) = false := by decide)
    (he : starEach (e :: es) X.env = (false, eval e X.env) :: starEach es X.env := by rfl) (hpl : (backTo pos (starEach es X.env)).any (·.1) = false := by rfl) : ED B X (.Call (.Name x p) (e :: es) [] pos) (gBlt g fs) :=
  ⟨pe_imp (pe_callBfun hc hg hm ha.run hdb he hpl) fun s H Q h => tcb_of h⟩
/-- a name of a built-in type -/
theorem ed_ty (hg : Gl X x) (hm : X.mg x = none) (hv : bootBuiltins x = some (.type T)) (hn : x ≠ "__name__" := by decide) (hdb : (x == ("__debug__" : Str)) = false := by decide) : ED B X (.Name x pos) (gC (.opq (.ty T))) :=
  ed_c (v := .ty T) (pe_bltn hg hm hv rfl hn hdb) fun _ => .opq _

theorem rb1 {W : WD} {K : Kn} {F H : Hp} {vs : List V} {d : D} (h : RepBs W K F H vs [d]) : ∃ v, vs = [v] ∧ RepB W K F H v d := by
  cases h with
  | cons h t =>
    cases t
    exact ⟨_, rfl, h⟩
theorem rb2 {W : WD} {K : Kn} {F H : Hp} {vs : List V} {d d' : D} (h : RepBs W K F H vs [d, d']) : ∃ v u, vs = [v, u] ∧ RepB W K F H v d ∧ RepB W K F H u d' := by
  cases h with
  | cons h t =>
    obtain ⟨u, rfl, h2⟩ := rb1 t
    exact ⟨_, _, rfl, h, h2⟩
/-! the answers -/
def lenD : List D → (D → Prop) → Prop
  | [.lst xs], Q => Q (.int xs.length)
  | [.tup xs], Q => Q (.int xs.length)
  | [.str x], Q => x.length ≤ sizeLine ∧ Q (.int x.length)
  | [.dic ks], Q => Q (.int ks.length)
  | _, _ => False
theorem repKs_len {K : Kn} {F : Hp} : ∀ {v : List (Key × V)} {d : List (Key × D)}, RepKs K F v d → v.length = d.length
  | _, _, .nil => rfl
  | _, _, .cons _ t => by rw [List.length_cons, List.length_cons, repKs_len t]
theorem c_len : CallR X (.builtin "len") (LCa B X.kn lenD) := callR_by fun vs H Q ⟨F, ds, Qd, e, dk, r, q, k⟩ => by
  unfold lenD at q
  split at q
  · obtain ⟨v, rfl, r1⟩ := rb1 r
    obtain ⟨a, us, rfl, h1, h2⟩ := r1.lst e
    exact ⟨_, call_len_seq, a, us, rfl, .inl (SqL.of h1), by rw [h2.length]; exact k.here e dk q (.int _)⟩
  · obtain ⟨v, rfl, r1⟩ := rb1 r
    obtain ⟨a, us, rfl, _, h1, h2⟩ := r1.tup e
    exact ⟨_, call_len_seq, a, us, rfl, .inr h1, by rw [h2.length]; exact k.here e dk q (.int _)⟩
  · obtain ⟨v, rfl, r1⟩ := rb1 r
    exact ⟨_, call_len_str, _, by rw [r1.str], q.1, k.here e dk q.2 (.int _)⟩
  · obtain ⟨v, rfl, r1⟩ := rb1 r
    obtain ⟨a, us, rfl, h1, h2⟩ := r1.dic e
    exact ⟨_, call_lenD, a, us, rfl, h1, by rw [repKs_len h2]; exact k.here e dk q (.int _)⟩
  · exact q.elim
def intD : List D → (D → Prop) → Prop
  | [.int i], Q => Q (.int i)
  | [.bl b], Q => Q (.int (if b = true then 1 else 0))
  | [.str x], Q => ∃ n, intText? x = some n ∧ x.length ≤ 640 ∧ Q (.int n)
  | _, _ => False
theorem c_int : CallR X (.type "int") (LCa B X.kn intD) := callR_by fun vs H Q ⟨F, ds, Qd, e, dk, r, q, k⟩ => by
  unfold intD at q
  split at q
  · obtain ⟨v, rfl, r1⟩ := rb1 r
    exact ⟨_, call_int1, .inl ⟨_, by rw [r1.int], k.here e dk q (.int _)⟩⟩
  · obtain ⟨v, rfl, r1⟩ := rb1 r
    exact ⟨_, call_int1, .inr ⟨_, by rw [r1.bl], k.here e dk q (.int _)⟩⟩
  · obtain ⟨v, rfl, r1⟩ := rb1 r
    obtain ⟨n, h1, h2, h3⟩ := q
    exact ⟨_, call_int_str, _, n, by rw [r1.str], h1, h2, k.here e dk h3 (.int _)⟩
  · exact q.elim
def boolD : List D → (D → Prop) → Prop
  | [.int i], Q => Q (.bl (i != 0))
  | [.bl b], Q => Q (.bl b)
  | _, _ => False
theorem c_bool : CallR X (.type "bool") (LCa B X.kn boolD) := callR_by fun vs H Q ⟨F, ds, Qd, e, dk, r, q, k⟩ => by
  unfold boolD at q
  split at q
  · obtain ⟨v, rfl, r1⟩ := rb1 r
    exact ⟨_, call_bool1, .inl ⟨_, by rw [r1.int], k.here e dk q (.bl _)⟩⟩
  · obtain ⟨v, rfl, r1⟩ := rb1 r
    exact ⟨_, call_bool1, .inr ⟨_, by rw [r1.bl], k.here e dk q (.bl _)⟩⟩
  · exact q.elim
def absD : List D → (D → Prop) → Prop
  | [.int i], Q => Q (.int (if i < 0 then -i else i))
  | _, _ => False
theorem c_abs : CallR X (.builtin "abs") (LCa B X.kn absD) := callR_by fun vs H Q ⟨F, ds, Qd, e, dk, r, q, k⟩ => by
  unfold absD at q
  split at q
  · obtain ⟨v, rfl, r1⟩ := rb1 r
    exact ⟨_, call_abs, _, by rw [r1.int], k.here e dk q (.int _)⟩
  · exact q.elim
def max2D : List D → (D → Prop) → Prop
  | [.int i, .int j], Q => Q (.int (if j > i then j else i))
  | _, _ => False
theorem c_max2 (hc : X.calm = true) : CallR X (.builtin "max") (LCa B X.kn max2D) := callR_by fun vs H Q ⟨F, ds, Qd, e, dk, r, q, k⟩ => by
  unfold max2D at q
  split at q
  · obtain ⟨v, u, rfl, r1, r2⟩ := rb2 r
    exact ⟨_, call_max2 hc, _, _, by rw [r1.int, r2.int], k.here e dk q (.int _)⟩
  · exact q.elim
def min2D : List D → (D → Prop) → Prop
  | [.int i, .int j], Q => Q (.int (if j < i then j else i))
  | _, _ => False
theorem c_min2 (hc : X.calm = true) : CallR X (.builtin "min") (LCa B X.kn min2D) := callR_by fun vs H Q ⟨F, ds, Qd, e, dk, r, q, k⟩ => by
  unfold min2D at q
  split at q
  · obtain ⟨v, u, rfl, r1, r2⟩ := rb2 r
    exact ⟨_, call_min2 hc, _, _, by rw [r1.int, r2.int], k.here e dk q (.int _)⟩
  · exact q.elim
def gcdD : List D → (D → Prop) → Prop
  | [.int i, .int j], Q => Q (.int ((Nat.gcd i.natAbs j.natAbs : Nat) : Int))
  | _, _ => False
theorem c_gcd : CallR X (.builtin "math.gcd") (LCa B X.kn gcdD) := callR_by fun vs H Q ⟨F, ds, Qd, e, dk, r, q, k⟩ => by
  unfold gcdD at q
  split at q
  · obtain ⟨v, u, rfl, r1, r2⟩ := rb2 r
    exact ⟨_, cr_gcd, _, _, by rw [r1.int, r2.int], k.here e dk q (.int _)⟩
  · exact q.elim
theorem isqrt_wide : CallR X (.builtin "math.isqrt") (fun vs H Q => ∃ a : Int, vs = [.int a] ∧ 0 ≤ a ∧ a.toNat.log2 < 13000 ∧ Q (.int ((Float64.isqrt a.toNat : Nat) : Int)) H) := by
  intro pins s σ H vs us Q I r h
  obtain ⟨a, rfl, h0, h1, q⟩ := h
  obtain ⟨u, rfl, t, rfl⟩ := vals1 r
  have h2 : a.toNat.log2 / 30 < 434 := Nat.div_lt_of_lt_mul (by omega)
  exact call_function_meets PySem.W.MGF.kind_isqrt PySem.W.MGF.plain_isqrt PySem.W.MGF.entry_isqrt (PySem.W.MGF.args_isqrt _) (PySem.W.mg_run_isqrt a t (by omega) (by omega) (by omega)).meets ⟨.int _, H, I.tok _, ⟨_, rfl⟩, q⟩
def isqrtD : List D → (D → Prop) → Prop
  | [.int i], Q => 0 ≤ i ∧ i.toNat.log2 < 13000 ∧ Q (.int ((Float64.isqrt i.toNat : Nat) : Int))
  | _, _ => False
theorem c_isqrt : CallR X (.builtin "math.isqrt") (LCa B X.kn isqrtD) := callR_by fun vs H Q ⟨F, ds, Qd, e, dk, r, q, k⟩ => by
  unfold isqrtD at q
  split at q
  · obtain ⟨v, rfl, r1⟩ := rb1 r
    exact ⟨_, isqrt_wide, _, by rw [r1.int], q.1, q.2.1, k.here e dk q.2.2 (.int _)⟩
  · exact q.elim

/-! isinstance with a built-in type -/
def tyD : D → Option String
  | .non => some "NoneType" | .bl _ => some "bool" | .int _ => some "int" | .str _ => some "str" | .tup _ => some "tuple" | .lst _ => some "list" | .dic _ => some "dict" | _ => none
def isTb (t T : String) : Bool := t == T || (t == "bool" && T == "int")
def knownT (T : String) : Bool := T == "int" || T == "bool" || T == "str" || T == "tuple" || T == "list" || T == "dict"
def isiB (T : String) (x : D) : Bool := match tyD x with | some t => isTb t T | none => false
def isiD : List D → (D → Prop) → Prop
  | [x, .opq (.ty T)], Q => knownT T = true ∧ (tyD x).isSome = true ∧ Q (.bl (isiB T x))
  | _, _ => False
theorem kitB_all : ∀ t ∈ ["NoneType", "bool", "int", "str", "tuple", "list", "dict"], ∀ T ∈ ["int", "bool", "str", "tuple", "list", "dict"], kitB t T = some (isTb t T) := by decide +kernel
theorem tyD_mem {x : D} {t : String} (h : tyD x = some t) : t ∈ ["NoneType", "bool", "int", "str", "tuple", "list", "dict"] := by
  cases x <;> simp only [tyD, Option.some.injEq, reduceCtorEq] at h <;> subst h <;> simp
theorem RepB.tyx {W : WD} {K : Kn} {F H : Hp} {v : V} {x : D} {t : String} (h : RepB W K F H v x) (e : Same F H) (ht : tyD x = some t) : TyX K.K H v (.type t) := by
  cases x <;> simp only [tyD, Option.some.injEq, reduceCtorEq] at ht <;> subst ht
  · rw [h.non]; exact .base .non
  · rw [h.bl]; exact .base (.bl _)
  · rw [h.int]; exact .base (.int _)
  · rw [h.str]; exact .base (.str _)
  · obtain ⟨a, us, rfl, _, h1, h2⟩ := h.tup e
    rcases h1 with (h1 | ⟨o, h1⟩) | ⟨o, its, n, h1, h2, _⟩
    · exact .base (.tup h1)
    · exact .fTuple h1
    · exact .kTuple h1 h2
  · obtain ⟨a, us, rfl, h1, h2⟩ := h.lst e
    exact .base (.lst h1)
  · obtain ⟨a, us, rfl, h1, h2⟩ := h.dic e
    exact .base (.dK h1)
theorem c_isi : CallR X (.builtin "isinstance") (LCa B X.kn isiD) := callR_by fun vs H Q ⟨F, ds, Qd, e, dk, r, q, k⟩ => by
  unfold isiD at q
  split at q
  · rename_i x T
    obtain ⟨v, u, rfl, r1, r2⟩ := rb2 r
    obtain ⟨h1, h2, h3⟩ := q
    obtain ⟨t, ht⟩ := Option.isSome_iff_exists.mp h2
    have hu := r2.opq
    subst hu
    refine ⟨_, call_isi, v, .ty T, .type t, .type T, isTb t T, rfl, .ty T, r1.tyx e ht, kit_ty (kitB_all t (tyD_mem ht) T ?_), k.here e dk ?_ (.bl _)⟩
    · simp only [knownT, Bool.or_eq_true, beq_iff_eq] at h1
      rcases h1 with ((((h | h) | h) | h) | h) | h <;> subst h <;> simp
    · have : isiB T x = isTb t T := by unfold isiB; rw [ht]
      rw [← this]
      exact h3
  · exact q.elim

/-! repr of plain data -/
def reprD : List D → (D → Prop) → Prop
  | [x], Q => pl 64 x = true ∧ (toPy x).showable = true ∧ (toPy x).shown.length ≤ sizeLine ∧ Q (.str (toPy x).shown)
  | _, _ => False
theorem c_repr (hG : X.A.guards = some []) (hu : X.A.units + 65 < cLine) : CallR X (.builtin "repr") (LCa B X.kn reprD) := fun pins s σ H vs us Q I rx ⟨F, ds, Qd, e, dk, r, q, k⟩ => by
  unfold reprD at q
  split at q
  · rename_i x
    obtain ⟨v, rfl, r1⟩ := rb1 r
    obtain ⟨h1, h2, h3, h4⟩ := q
    obtain ⟨u, rfl, ru⟩ := vals1 rx
    have fin : Q (.str (toPy x).shown) H := k.here e dk h4 (.str _)
    have sh := pl_shape 64 x h1
    have refs : ∀ a, v = .ref a → wpAny (model X.prog X.w) X.A (call (.builtin "repr") [u]) (EP X pins σ Q) X.xe s := fun a hv => by
      subst hv
      cases ru
      obtain ⟨as, rd⟩ := Dp.reads I _ _ _ (r1.dp e h1) rfl
      refine PySem.repr_of_reads' rd h2 (PyData.noDict_hsm (PyData.hasDict_of_canLay _ sh.1)) hG (by omega) (fun _ _ z => z) (fun h' u tk hk => ?_) h3
      exact ⟨.str _, H, I.kept (t' := tk) hk, ⟨_, rfl⟩, fin⟩
    cases x with
    | non =>
      have := r1.non
      subst this
      cases ru
      exact PySem.P.repr_of_none ⟨.str _, H, I.tok _, ⟨_, rfl⟩, by simpa [toPy, PyData.shown] using fin⟩
    | bl b =>
      have := r1.bl
      subst this
      cases ru
      exact PySem.P.repr_of_bool ⟨.str _, H, I.tok _, ⟨_, rfl⟩, by simpa [toPy, PyData.shown] using fin⟩
    | int i =>
      have := r1.int
      subst this
      obtain ⟨t, rfl⟩ := ru
      exact PySem.P.repr_of_int (by simpa [toPy, PyData.showable] using h2) ⟨.str _, H, I.tok _, ⟨_, rfl⟩, by simpa [toPy, PyData.shown] using fin⟩
    | str i =>
      have := r1.str
      subst this
      obtain ⟨t, rfl⟩ := ru
      exact PySem.P.repr_of_str ⟨.str _, H, I.tok _, ⟨_, rfl⟩, by simpa [toPy, PyData.shown] using fin⟩ (by simpa [toPy, PyData.shown] using h3)
    | tup xs =>
      obtain ⟨a, us, hv, _⟩ := r1.tup e
      exact refs a hv
    | lst xs =>
      obtain ⟨a, us, hv, _⟩ := r1.lst e
      exact refs a hv
    | dic _ => simp [pl] at h1
    | obj _ _ => simp [pl] at h1
    | opq _ => simp [pl] at h1
  · exact q.elim

/-! text * int -/
def repS : D → D → (D → Prop) → Prop
  | .str x, .int k, Q => 1 ≤ k ∧ x.length * k.toNat ≤ sizeLine ∧ x.length ≠ 0 ∧ Q (.str (Txt.mul x k))
  | _, _, _ => False
theorem o_repS : OpR X (binaryOp .Mult) (LO2 B X.kn repS) := fun pins s σ H x y v u Q I rx ry ⟨F, a, b, Qd, e, dk, r1, r2, q, k⟩ => by
  unfold repS at q
  split at q
  · rename_i z n
    obtain ⟨h1, h2, h0, h3⟩ := q
    have e1 := r1.str
    have e2 := r2.int
    subst e1 e2
    obtain ⟨t, rfl⟩ := rx
    obtain ⟨t', rfl⟩ := ry
    have hn : n.toNat ≤ z.length * n.toNat := Nat.le_mul_of_pos_left _ (by omega)
    have hs : (sizeLine : Nat) < 2 ^ 62 := by decide
    have hb : (z.length : Int) ≤ (2 ^ 63 - 1) / n := by
      rw [Int.le_ediv_iff_mul_le (by omega)]
      have e3 : (z.length : Int) * n = ((z.length * n.toNat : Nat) : Int) := by
        rw [Int.natCast_mul, Int.toNat_of_nonneg (by omega)]
      rw [e3]
      have : z.length * n.toNat < 2 ^ 62 := by omega
      have h5 : ((z.length * n.toNat : Nat) : Int) < ((2 ^ 62 : Nat) : Int) := Int.ofNat_lt.mpr this
      have h6 : ((2 ^ 62 : Nat) : Int) ≤ 2 ^ 63 - 1 := by decide
      omega
    refine PySem.SB.mul ⟨?_, fun _ _ => by omega, fun _ _ => ?_⟩ fun t' tk => ⟨.str _, H, I.tok _, ⟨_, rfl⟩, k.here e dk h3 (.str _)⟩
    · have hlt : n.toNat < 2 ^ 62 := by omega
      simp only [Bool.or_eq_false_iff, decide_eq_false_iff_not]
      have h7 : (2 : Int) ^ 63 = 9223372036854775808 := by decide
      have h8 : (2 : Nat) ^ 62 = 4611686018427387904 := by decide
      omega
    · unfold PySem.Builtin.Str.tooLong
      exact decide_eq_false (by omega)
  · exact q.elim
end
end ND

/-! ND8: defs by data -/
namespace ND
open PySem PySem.Spec L2
open PyProof.Rows (envOfC)

def startD (n : Nat) (ds : List D) : List SV := ds.map SV.d ++ List.replicate (n - ds.length) .no
theorem rel_start {W : WD} {K : Kn} {F H : Hp} {N : List Str} {vs : List V} {ds : List D} (e : Same F H) (dk : DeckIn W F H) (r : Reps K F vs ds) : Rel ⟨W, F, H⟩ K (startD N.length ds) (L2.start N vs) F H := by
  refine ⟨Grow.refl e, dk, dk, ?_, fun _ => none, ⟨fun i j a z => (nomatch z), fun i a z => (nomatch z)⟩, fun i x v e1 e2 => ?_⟩
  · unfold startD L2.start
    simp [r.length]
  · unfold startD at e1
    unfold L2.start at e2
    by_cases hi : i < ds.length
    · rw [List.getElem?_append_left (by simpa using hi)] at e1
      rw [List.getElem?_append_left (by simpa [r.length] using hi)] at e2
      rw [List.getElem?_map] at e1 e2
      cases ed : ds[i]? with
      | none =>
        rw [ed] at e1
        cases e1
      | some d =>
        rw [ed] at e1
        obtain ⟨u, h1, h2⟩ := r.get ed
        rw [h1] at e2
        cases e1
        cases e2
        exact h2
    · rw [List.getElem?_append_right (by simpa using hi)] at e1
      rw [List.getElem?_append_right (by simpa [r.length] using hi)] at e2
      have h1 := List.eq_of_mem_replicate (List.mem_of_getElem? e1)
      have h2 := List.eq_of_mem_replicate (List.mem_of_getElem? e2)
      subst h1 h2
      exact True.intro
/-- behind a def's body -/
@[simp] def endsD (Q : D → Prop) : Ed := { nx := fun _ => Q .non, rt := Q, bk := fun _ => False, ct := fun _ => False }
section
variable {P : Program} {w : World} {K : PySem.W.Frag} {mg : Str → Option Value} {base : Heap} {x qual : Str} {st : Stmt} {f : Addr} {fd : FuncData} {N ps : List Str} {k : Nat} {sp : DSp} {g : WD → (Er → Prop) → GS}
abbrev cxD (P : Program) (w : World) (K : PySem.W.Frag) (mg : Str → Option Value) (base : Heap) (N : List Str) (qual : Str) (st : Stmt) (f : Addr) (cdv : Value) (A : Around) (outer : List Env) (s : Shared) (H : Hp) (E : XK) : Cx :=
  cxOf (L2.CX P w) P w K mg base N qual (defScope st) f cdv A outer s H E
theorem body_run {cdv : Value} {A : Around} {outer : List Env} {s : Shared} {H : Hp} {E : XK} {W : WD} {F : Hp} {ds : List D} {vs : List V} {Qd : D → Prop} {Q : VK} {R : Er → Prop} (hb : SDs ⟨W, F, H⟩ (cxD P w K mg base N qual st f cdv A outer s H E) (defBody st) (g W R))
    (e : Same F H) (dk : DeckIn W F H) (r : Reps ⟨K, mg⟩ F vs ds) (q : g W R (endsD Qd) (startD N.length ds)) (kf : Fin ⟨W, F, H⟩ ⟨K, mg⟩ F H Qd Q) :
    ∃ t, PSs (cxD P w K mg base N qual st f cdv A outer s H E) (defBody st) t ∧ t { nx := fun _ H' => Q .non H', rt := Q } (L2.start N vs) H :=
  ⟨_, hb.run, startD N.length ds, F, endsD Qd, rel_start e dk r, q, ⟨fun σ s F' H' _ R' qn => kf .non qn F' H' .non R'.base R'.deck .non, fun d v F' H' g' dk' r' qd => kf d qd F' H' v g' dk' r', fun _ _ _ _ _ _ z => z.elim, fun _ _ _ _ _ _ z => z.elim⟩⟩
theorem okD (F : Fun K x qual st f fd) (S : FnScope N ps (defScope st)) (hlen : ∀ W ds Q R, sp W ds Q R → ds.length = ps.length)
    (body : ∀ (cdv : Value) (A : Around) (outer : List Env) (s : Shared) (H : Hp) (E : XK) (W : WD) (F : Hp) (R : Er → Prop), Room k (A.deeper (envOfC qual (defScope st) s.heap.objs.size f cdv)) → FinE W ⟨K, mg⟩ F H R E →
      PassesOwn (model P w) (cxD P w K mg base N qual st f cdv A outer s H E).A (cxD P w K mg base N qual st f cdv A outer s H E).env (cxD P w K mg base N qual st f cdv A outer s H E).xe →
      Passes (L2.CX P w) (cxD P w K mg base N qual st f cdv A outer s H E) E → SDs ⟨W, F, H⟩ (cxD P w K mg base N qual st f cdv A outer s H E) (defBody st) (g W R))
    (law : ∀ W ds Q R, sp W ds Q R → g W R (endsD Q) (startD N.length ds)) : FnOk P w K mg base (L2.CX P w) (k + 1) f fd ps (liftSp ⟨K, mg⟩ sp) := by
  refine F.okX S (fun vs H Q E ⟨W, F, ds, Qd, Rd, h1, h2, h3, h4, _⟩ => h3.length.trans (hlen _ _ _ _ h4)) fun cdv A outer s H vs Q E hr ⟨W, F, ds, Qd, Rd, h1, h2, h3, h4, h5, h6⟩ => ?_
  exact body_run (body cdv A outer s H E W F Rd hr h6 (passes_of rfl) (passes_call (takes_of rfl rfl rfl rfl) fun _ _ _ _ z => z)) h1 h2 h3 (law W ds Qd Rd h4) h5
theorem okG (F : Fun K x qual st f fd) (S : FnScope N ps (defScope st)) (hlen : ∀ W ds Q R, sp W ds Q R → ds.length = ps.length)
    (body : ∀ (cdv : Value) (A : Around) (outer : List Env) (s : Shared) (H : Hp) (E : XK) (W : WD) (F : Hp) (R : Er → Prop), (A.deeper (envOfC qual (defScope st) s.heap.objs.size f cdv)).guards = some [] → Room k (A.deeper (envOfC qual (defScope st) s.heap.objs.size f cdv)) → FinE W ⟨K, mg⟩ F H R E →
      PassesOwn (model P w) (cxD P w K mg base N qual st f cdv A outer s H E).A (cxD P w K mg base N qual st f cdv A outer s H E).env (cxD P w K mg base N qual st f cdv A outer s H E).xe →
      Passes (L2.CX P w) (cxD P w K mg base N qual st f cdv A outer s H E) E → SDs ⟨W, F, H⟩ (cxD P w K mg base N qual st f cdv A outer s H E) (defBody st) (g W R))
    (law : ∀ W ds Q R, sp W ds Q R → g W R (endsD Q) (startD N.length ds)) : FnG P w K mg base (k + 1) f fd ps (liftSp ⟨K, mg⟩ sp) := by
  obtain ⟨oc, od, kV, doc, pm, an, cdv, ct, osl, rfl, lk, hcd⟩ := F.ex
  refine fn_ofG lk hcd S (fun vs H Q E ⟨W, F, ds, Qd, Rd, h1, h2, h3, h4, _⟩ => h3.length.trans (hlen _ _ _ _ h4)) fun A outer s H vs Q E hG hr ⟨W, F, ds, Qd, Rd, h1, h2, h3, h4, h5, h6⟩ => ?_
  exact body_run (body cdv A outer s H E W F Rd hG hr h6 (passes_of rfl) (passes_call (takes_of rfl rfl rfl rfl) fun _ _ _ _ z => z)) h1 h2 h3 (law W ds Qd Rd h4) h5
end

/-- the def of the name x keeps sp, at the level k -/
structure OkD (P : Program) (w : World) (K : PySem.W.Frag) (mg : Str → Option Value) (base : Heap) (x : Str) (st : Stmt) (k : Nat) (ps : List Str) (sp : DSp) : Prop where
  ex : ∃ f fd, mg x = some (.ref f) ∧ Fun K x x st f fd ∧ FnOk P w K mg base (L2.CX P w) k f fd ps (liftSp ⟨K, mg⟩ sp)
structure OkG (P : Program) (w : World) (K : PySem.W.Frag) (mg : Str → Option Value) (base : Heap) (x : Str) (st : Stmt) (k : Nat) (ps : List Str) (sp : DSp) : Prop where
  ex : ∃ f fd, mg x = some (.ref f) ∧ Fun K x x st f fd ∧ FnG P w K mg base k f fd ps (liftSp ⟨K, mg⟩ sp)
/-- how the def st binds by position, by keyword -/
abbrev BindsP (x : Str) (st : Stmt) (ps : List Str) : Prop := ∀ (kV doc pm : Value) (an : Option Addr) (cdv ct : Value) (us : List Value), us.length = ps.length → bindArgs (PySem.W.fnOf x x (defArgs st) (defBody st) (defScope st) .none kV doc pm an cdv ct) ⟨us, []⟩ = pure (ps.zip us)
abbrev BindsKw (x : Str) (st : Stmt) (ps ks : List Str) (n m : Nat) (pm : List Nat) : Prop := ∀ (kV doc pmv : Value) (an : Option Addr) (cdv ct : Value) (us ws : List Value), us.length = n → ws.length = m →
  bindArgs (PySem.W.fnOf x x (defArgs st) (defBody st) (defScope st) .none kV doc pmv an cdv ct) ⟨us, ks.zip ws⟩ = pure (ps.zip (permA n m pm us ws))
section
variable {B : Bs} {X : Cx} {k : Nat} {ps : List Str} {sp : DSp} {R : Er → Prop} {E : XK} {x : Str} {st : Stmt} {p pos : Pos} {e : Expr} {es : List Expr} {fs fk : GA} {ks : List Str} {kws : List Keyword} {n m : Nat} {pm : List Nat}
theorem ed_o (O : OkD X.prog X.w X.K X.mg X.base x st k ps sp) (b : BindsP x st ps) (hr : Room k X.A) (hx : Passes (L2.CX X.prog X.w) X E) (hE : FinE B.W X.kn B.F B.H R E) (ha : AD B X (e :: es) fs) (hg : Gl X x := by rfl) (hdb : (x == ("__debug__" : Str)) = false := by decide)
    (he : starEach (e :: es) X.env = (false, eval e X.env) :: starEach es X.env := by rfl) (hpl : (backTo pos (starEach es X.env)).any (·.1) = false := by rfl) : ED B X (.Call (.Name x p) (e :: es) [] pos) (gCall sp B.W R fs) := by
  obtain ⟨f, fd, hm, F, G⟩ := O.ex
  exact ed_call G hr hg hm F.kp (F.binds b) hx hE ha hdb he hpl
theorem ed_g (O : OkG X.prog X.w X.K X.mg X.base x st k ps sp) (b : BindsP x st ps) (hG : X.A.guards = some []) (hr : Room k X.A) (hx : Passes (L2.CX X.prog X.w) X E) (hE : FinE B.W X.kn B.F B.H R E) (ha : AD B X (e :: es) fs) (hg : Gl X x := by rfl) (hdb : (x == ("__debug__" : Str)) = false := by decide)
    (he : starEach (e :: es) X.env = (false, eval e X.env) :: starEach es X.env := by rfl) (hpl : (backTo pos (starEach es X.env)).any (·.1) = false := by rfl) : ED B X (.Call (.Name x p) (e :: es) [] pos) (gCall sp B.W R fs) := by
  obtain ⟨f, fd, hm, F, G⟩ := O.ex
  exact ed_callG G hG hr hg hm F.kp (F.binds b) hx hE ha hdb he hpl
theorem kb_of {K : PySem.W.Frag} {f : Addr} {fd : FuncData} (F : Fun K x x st f fd) (hp : ps ≠ []) (b : BindsKw x st ps ks n m pm) : KBinds K fd ps ks (permA n m pm) (permA n m pm) := by
  obtain ⟨oc, od, kV, doc, pmv, an, cdv, ct, osl, rfl, lk, hcd⟩ := F.ex
  exact kb_perm hp fun us ws h1 h2 => b kV doc pmv an cdv ct us ws h1 h2
theorem ed_ok (O : OkD X.prog X.w X.K X.mg X.base x st k ps sp) (hp : ps ≠ []) (b : BindsKw x st ps ks n m pm) (hr : Room k X.A) (hx : Passes (L2.CX X.prog X.w) X E) (hE : FinE B.W X.kn B.F B.H R E) (ha : AD B X (e :: es) fs) (hkw : KD B X kws fk) (hg : Gl X x := by rfl)
    (hall : (backToKw pos (keywordEach kws X.env)).all (·.1.isSome) = true := by rfl) (hks : (backToKw pos (keywordEach kws X.env)).filterMap (·.1) = ks := by rfl)
    (hdb : (x == ("__debug__" : Str)) = false := by decide) (he : starEach (e :: es) X.env = (false, eval e X.env) :: starEach es X.env := by rfl)
    (hpl : ((backTo pos (starEach (e :: es) X.env)).any (·.1) || (backToKw pos (keywordEach kws X.env)).any (·.1.isNone)) = false := by rfl) : ED B X (.Call (.Name x p) (e :: es) kws pos) (gCallK sp n m pm B.W R fs fk) := by
  obtain ⟨f, fd, hm, F, G⟩ := O.ex
  exact ed_callK G hr hg hm F.kp (kb_of F hp b) hx hE ha hkw hall hks hdb he hpl
theorem ed_ok0 (O : OkD X.prog X.w X.K X.mg X.base x st k ps sp) (hp : ps ≠ []) (b : BindsKw x st ps ks n m pm) (hr : Room k X.A) (hx : Passes (L2.CX X.prog X.w) X E) (hE : FinE B.W X.kn B.F B.H R E) (hkw : KD B X kws fk) (hg : Gl X x := by rfl)
    (hall : (backToKw pos (keywordEach kws X.env)).all (·.1.isSome) = true := by rfl) (hks : (backToKw pos (keywordEach kws X.env)).filterMap (·.1) = ks := by rfl)
    (hdb : (x == ("__debug__" : Str)) = false := by decide)
    (hpl : ((backTo pos (starEach [] X.env)).any (·.1) || (backToKw pos (keywordEach kws X.env)).any (·.1.isNone)) = false := by rfl) : ED B X (.Call (.Name x p) [] kws pos) (gCallK sp n m pm B.W R gNil fk) := by
  obtain ⟨f, fd, hm, F, G⟩ := O.ex
  exact ed_callK0 G hr hg hm F.kp (kb_of F hp b) hx hE hkw hall hks hdb hpl
end
end ND

/-! ND9: the deck: making it, drawing from it -/
namespace ND
open PySem PySem.Spec L2
open PyProof.Rows (envOfC)

theorem nbMax : bootBuiltins "max" = some (.builtin "max") := by decide +kernel
theorem nbMin : bootBuiltins "min" = some (.builtin "min") := by decide +kernel
theorem nbInt : bootBuiltins "int" = some (.type "int") := by decide +kernel
theorem nbBool : bootBuiltins "bool" = some (.type "bool") := by decide +kernel
theorem nbTuple : bootBuiltins "tuple" = some (.type "tuple") := by decide +kernel
theorem nbList : bootBuiltins "list" = some (.type "list") := by decide +kernel
theorem nbDict : bootBuiltins "dict" = some (.type "dict") := by decide +kernel
theorem nbStr : bootBuiltins "str" = some (.type "str") := by decide +kernel
theorem nbLen : bootBuiltins "len" = some (.builtin "len") := by decide +kernel
theorem nbAbs : bootBuiltins "abs" = some (.builtin "abs") := by decide +kernel
theorem nbIsi : bootBuiltins "isinstance" = some (.builtin "isinstance") := by decide +kernel
theorem nbRepr : bootBuiltins "repr" = some (.builtin "repr") := by decide +kernel

theorem nosl {x : Str} {j : Nat} {p : Pos} : NoSl (.Constant (.str x) j p) := fun _ _ => rfl
abbrev iM (t : TA) : TE := tCB (fun xs H Q => (∃ i, xs = [V.int i] ∧ Q (V.int i) H) ∨ ∃ k, xs = [V.bl k] ∧ Q (V.int (if k = true then 1 else 0)) H) t
abbrev aP (a b : TE) : TE := tOp (rI0 fun i j => V.int (i + j)) a b
abbrev mP (a b : TE) : TE := tOp (rI CMul fun i j => V.int (i * j)) a b
abbrev rP (a b : TE) : TE := tOp (rI (fun _ j => 0 < j) fun i j => V.int (i % j)) a b
abbrev fP (a b : TE) : TE := tOp (rI CDivW fun i j => V.int (i / j)) a b
abbrev dG (k : Str) : TE := tDGet (tVar 0) (tC (V.str k))
abbrev tDraw6 : TS :=
  tSeq (tAsg (rP (iM (tCons (mP (tVar 2) (tC (V.int 40692))) tNil)) (tC (V.int 2147483647))) (gName 2))
  (tRet (rP (iM (tCons (fP (tVar 2) (tC (V.int 64))) tNil)) (tVar 1)))
abbrev tDraw5 : TS :=
  tSeq (tAsg (rP (iM (tCons (aP (aP (mP (tVar 2) (tVar 2)) (mP (tC (V.int 52774)) (dG "draws"))) (tC (V.int 17))) tNil)) (tC (V.int 2147483399))) (gName 2)) tDraw6
abbrev tDraw4 : TS :=
  tSeq (tAsg (rP (iM (tCons (aP (mP (tVar 2) (tC (V.int 40014))) (tC (V.int 91))) tNil)) (tC (V.int 2147483563))) (gName 2)) tDraw5
abbrev tDraw3 (K : PySem.W.Frag) : TS :=
  tIfS (tTest (tOp (rNeD K) (dG "left") (tLst tNil)))
    (tSeq (tAsg (tBM0 K "list" rPop (dG "left")) (gName 3))
      (tSeq (tIfS (tTest (tOp (rI0 fun i j => V.bl (decide (j ≤ i))) (tVar 3) (tOp (rI CPow fun i j => V.int (i ^ j.toNat)) (tC (V.int 10)) (tC (V.int 18)))))
        (tSeq (tDrop (tBM K "list" rAppend (dG "left") (tCons (fP (tVar 3) (tCB (fun xs H Q => ∃ i j, xs = [V.int i, V.int j] ∧ Q (V.int (if j > i then j else i)) H) (tCons (tC (V.int 2)) (tCons (tVar 1) tNil)))) tNil)))
          (tRet (rP (iM (tCons (tVar 3) tNil)) (tVar 1))))
        tNext)
      (tAsg (aP (tVar 2) (rP (iM (tCons (tVar 3) tNil)) (tC (V.int 2147483629)))) (gName 2))))
    tNext
abbrev tDraw (c : Int) (K : PySem.W.Frag) : TS :=
  tSeq (sDPut (tVar 0) (tC (V.str "draws")) (aP (dG "draws") (tC (V.int 1))))
  (tSeq (tAsg (aP (dG "mixed") (mP (tC (V.int c)) (dG "draws"))) (gName 2))
  (tSeq (tDraw3 K) tDraw4))

theorem kl_d : (Sum.inr (PySem.Str.ofString "left") : Key) ≠ Sum.inr (PySem.Str.ofString "draws") := by decide +kernel
theorem km_d : (Sum.inr (PySem.Str.ofString "mixed") : Key) ≠ Sum.inr (PySem.Str.ofString "draws") := by decide +kernel
theorem kl_m : (Sum.inr (PySem.Str.ofString "left") : Key) ≠ Sum.inr (PySem.Str.ofString "mixed") := by decide +kernel
section
variable {H : Hp} {d l : Addr} {m n : Int} {ns : List Int}
theorem dg_left (h : H d = some (deckO l m n)) : DGet H d (.str "left") (some (.ref l)) := .inl ⟨_, .inr "left", .inl h, rfl, by rw [valV_pos rfl]⟩
theorem dg_mixed (h : H d = some (deckO l m n)) : DGet H d (.str "mixed") (some (.int m)) := .inl ⟨_, .inr "mixed", .inl h, rfl, by rw [valV_neg kl_m, valV_pos rfl]⟩
theorem dg_draws (h : H d = some (deckO l m n)) : DGet H d (.str "draws") (some (.int n)) := .inl ⟨_, .inr "draws", .inl h, rfl, by rw [valV_neg kl_d, valV_neg km_d, valV_pos rfl]⟩
theorem dp_draws (h : H d = some (deckO l m n)) (k : Int) : DPut H d (.str "draws") (.int k) (upd H d (deckO l m k)) := .inl ⟨_, .inr "draws", h, rfl, by show 3 < sizeLine; decide, by
  have e : putK [((Sum.inr "left" : Key), V.ref l), (Sum.inr "mixed", V.int m), (Sum.inr "draws", V.int n)] (Sum.inr "draws") (V.int k) = [((Sum.inr "left" : Key), V.ref l), (Sum.inr "mixed", V.int m), (Sum.inr "draws", V.int k)] := by
    unfold putK
    simp only [List.any_cons, decide_true, Bool.true_or, Bool.or_true, List.any_nil, if_true, List.map_cons, List.map_nil, kl_d, km_d, if_false]
  rw [e]
  rfl⟩
theorem dp_ints {K : PySem.W.Frag} : ∀ ns : List Int, DpAll K H (ns.map V.int) (ns.map PyData.int)
  | [] => .nil
  | n :: ns => .cons (.int n) (dp_ints ns)
theorem ints_lay : ∀ ns : List Int, PyData.canLayAll0 (ns.map PyData.int) = true ∧ PyData.depthAll (ns.map PyData.int) ≤ 1
  | [] => by simp [PyData.canLayAll0, PyData.depthAll]
  | n :: ns => by
    obtain ⟨h1, h2⟩ := ints_lay ns
    simp only [List.map_cons, PyData.canLayAll0, PyData.depthAll, PyData.canLay0, PyData.depth, Bool.true_and]
    exact ⟨h1, Nat.max_le.mpr ⟨Nat.zero_le _, h2⟩⟩
theorem ints_shaped (ns : List Int) : SeqAt.shaped (.list (ns.map PyData.int)) = true := by
  obtain ⟨h1, h2⟩ := ints_lay ns
  show ((PyData.list (ns.map PyData.int)).canLay0 && decide ((PyData.list (ns.map PyData.int)).depth ≤ 64)) = true
  have d1 : (PyData.list (ns.map PyData.int)).canLay0 = true := by simpa [PyData.canLay0] using h1
  have d2 : (PyData.list (ns.map PyData.int)).depth ≤ 64 := by
    simp only [PyData.depth]
    exact Nat.le_trans (Nat.succ_le_succ h2) (by decide)
  rw [d1, decide_eq_true d2]
  rfl
theorem ints_empty : ∀ ns : List Int, PyData.eqv (.list (ns.map PyData.int)) (.list []) = ns.isEmpty
  | [] => by simp [PyData.eqv, PyData.eqvAll]
  | n :: ns => by simp [PyData.eqv, PyData.eqvAll]

/-- what the deck has become -/
structure DkAt (d l : Addr) (H H' : Hp) (m n : Int) (ns : List Int) : Prop where
  hd : H' d = some (deckO l m n)
  hl : H' l = some (.lst (ns.map V.int))
  kp : ∀ a o, H a = some o → a ≠ d → a ≠ l → H' a = some o
  st : ∀ a, H a ≠ none → H' a ≠ none
theorem DkAt.grow {F H' : Hp} {m' n' : Int} {ns' : List Int} (h0 : DeckAt (d, l) F H) (e : Same F H) (h : DkAt d l H H' m' n' ns') (hl : ns'.length ≤ 63) (h1 : 0 ≤ m') (h2 : m' < 2147483587) : Grow (some (d, l)) F H F H' ∧ DeckIn (some (d, l)) F H' := by
  refine ⟨⟨Same.refl F, fun a o q => h.kp a o (e a o q) (fun z => ?_) (fun z => ?_), fun a o q w => h.kp a o q (fun z => w ⟨_, rfl, .inl z⟩) fun z => w ⟨_, rfl, .inr z⟩, fun a q _ => q, h.st⟩, fun p hp => ?_⟩
  · have := h0.fd
    rw [← show a = d from z, q] at this
    cases this
  · have := h0.fl
    rw [← show a = l from z, q] at this
    cases this
  · cases hp
    exact ⟨h0.fd, h0.fl, h0.ne, ns', m', n', h.hd, h.hl, hl, h1, h2⟩
theorem mod_lt' {a b : Int} (h : 0 < b) : 0 ≤ a % b ∧ a % b < b := ⟨Int.emod_nonneg _ (by omega), Int.emod_lt_of_pos _ h⟩
theorem small64 {a : Int} (h1 : 0 ≤ a) (h2 : a < 4294967296) : -(2 ^ 64) < a ∧ a < 2 ^ 64 := by
  have e : (2 : Int) ^ 64 = 18446744073709551616 := by decide
  omega
theorem draw6 {D : Ends} {k z : Int} {y : Option V} (hz : 0 ≤ z ∧ z < 2147483399) (hk : 0 < k) (hQ : ∀ r, 0 ≤ r → r < k → D.rt (.int r) H) : tDraw6 D [some (.ref d), some (.int k), some (.int z), y] H := by
  refine ⟨_, rfl, _, _, rfl, rfl, .inl (small64 hz.1 (by omega)), .inl ⟨_, rfl, _, _, rfl, rfl, (by show (0 : Int) < 2147483647; decide), ?_⟩⟩
  refine ⟨_, rfl, _, _, rfl, rfl, ⟨by decide, by decide⟩, .inl ⟨_, rfl, _, rfl, _, _, rfl, rfl, hk, ?_⟩⟩
  exact hQ _ (mod_lt' hk).1 (mod_lt' hk).2
theorem draw5 {D : Ends} {k z : Int} {y : Option V} (hd : H d = some (deckO l m n)) (hz : 0 ≤ z ∧ z < 2147483563) (hk : 0 < k) (hQ : ∀ r, 0 ≤ r → r < k → D.rt (.int r) H) : tDraw5 D [some (.ref d), some (.int k), some (.int z), y] H :=
  ⟨_, rfl, _, rfl, _, _, rfl, rfl, .inl (small64 hz.1 (by omega)), _, rfl, _, _, rfl, dg_draws hd, _, _, rfl, rfl, .inl (small64 (by decide) (by decide)), _, _, rfl, rfl, _, _, rfl, rfl, .inl ⟨_, rfl, _, _, rfl, rfl, (by show (0 : Int) < 2147483399; decide), draw6 (mod_lt' (by decide)) hk hQ⟩⟩
theorem draw4 {D : Ends} {k z : Int} {y : Option V} (hd : H d = some (deckO l m n)) (hk : 0 < k) (hQ : ∀ r, 0 ≤ r → r < k → D.rt (.int r) H) : tDraw4 D [some (.ref d), some (.int k), some (.int z), y] H :=
  ⟨_, rfl, _, _, rfl, rfl, .inr (small64 (by decide) (by decide)), _, _, rfl, rfl, .inl ⟨_, rfl, _, _, rfl, rfl, (by show (0 : Int) < 2147483563; decide), draw5 hd (mod_lt' (by decide)) hk hQ⟩⟩
theorem draw_law {K : PySem.W.Frag} {c : Int} {D : Ends} {k : Int} {y1 y2 : Option V} (hc : -(2 ^ 64) < c ∧ c < 2 ^ 64) (hd : H d = some (deckO l m n)) (hl : H l = some (.lst (ns.map V.int))) (hdl : d ≠ l) (hn : ns.length ≤ 63) (hk : 0 < k) (hk2 : k < 2 ^ 62)
    (hQ : ∀ H' n' ns' r, DkAt d l H H' m n' ns' → ns'.length ≤ 63 → 0 ≤ r → r < k → D.rt (.int r) H') : tDraw c K D [some (.ref d), some (.int k), y1, y2] H := by
  refine ⟨_, rfl, _, _, rfl, dg_draws hd, _, _, rfl, rfl, _, rfl, _, _, rfl, dp_draws hd (n + 1), ?_⟩
  have hd1 : upd H d (deckO l m (n + 1)) d = some (deckO l m (n + 1)) := upd_same
  have hl1 : upd H d (deckO l m (n + 1)) l = some (.lst (ns.map V.int)) := by rw [upd_ne hdl.symm]; exact hl
  have k1 : ∀ a o, H a = some o → a ≠ d → a ≠ l → upd H d (deckO l m (n + 1)) a = some o := fun a o q z _ => by rw [upd_ne z]; exact q
  have s1 : ∀ a, H a ≠ none → upd H d (deckO l m (n + 1)) a ≠ none := fun a q => upd_keep q
  generalize upd H d (deckO l m (n + 1)) = H1 at hd1 hl1 k1 s1 ⊢
  refine ⟨_, rfl, _, _, rfl, dg_mixed hd1, _, rfl, _, _, rfl, dg_draws hd1, _, _, rfl, rfl, .inl hc, _, _, rfl, rfl, ?_⟩
  generalize m + c * (n + 1) = z
  refine ⟨_, rfl, _, _, rfl, dg_left hd1, Nat.zero_le _, fun p hp => ?_⟩
  have npd : d ≠ p := ne_of_none hd1 hp
  have npl : l ≠ p := ne_of_none hl1 hp
  have hd2 : upd H1 p (.lst []) d = some (deckO l m (n + 1)) := by rw [upd_ne npd]; exact hd1
  have hl2 : upd H1 p (.lst []) l = some (.lst (ns.map V.int)) := by rw [upd_ne npl]; exact hl1
  have k2 : ∀ a o, H a = some o → a ≠ d → a ≠ l → upd H1 p (.lst []) a = some o := fun a o q z z2 => by
    have w := k1 a o q z z2
    rw [upd_ne (ne_of_none w hp)]
    exact w
  have s2 : ∀ a, H a ≠ none → upd H1 p (.lst []) a ≠ none := fun a q => upd_keep (s1 a q)
  have hp2 : upd H1 p (.lst []) p = some (.lst []) := upd_same
  generalize upd H1 p (.lst []) = H2 at hd2 hl2 k2 s2 hp2 ⊢
  refine ⟨.list (ns.map PyData.int), .list [], .lst (SqL.of hl2) (dp_ints ns), .lst (SqL.of hp2) .nil, ints_shaped ns, by decide +kernel, _, rfl, ?_⟩
  rw [ints_empty]
  cases hns : ns.isEmpty with
  | true => exact draw4 hd2 hk fun r h1 h2 => hQ H2 (n + 1) ns r ⟨hd2, hl2, k2, s2⟩ hn h1 h2
  | false =>
    have hne : ns ≠ [] := by
      intro z
      rw [z] at hns
      cases hns
    obtain ⟨cs, cell, rfl⟩ : ∃ cs cell, ns = cs ++ [cell] := ⟨ns.dropLast, ns.getLast hne, (List.dropLast_concat_getLast hne).symm⟩
    have hcs : cs.length + 1 ≤ 63 := by simpa using hn
    have e0 : ((cs ++ [cell]).map V.int).dropLast = cs.map V.int := by simp
    refine ⟨_, rfl, _, _, rfl, dg_left hd2, .inl ⟨rfl, _, SqL.of hl2⟩, _, _, .int cell, rfl, rfl, hl2, by simp, ?_⟩
    rw [e0]
    have hd3 : upd H2 l (.lst (cs.map V.int)) d = some (deckO l m (n + 1)) := by rw [upd_ne hdl]; exact hd2
    have hl3 : upd H2 l (.lst (cs.map V.int)) l = some (.lst (cs.map V.int)) := upd_same
    have k3 : ∀ a o, H a = some o → a ≠ d → a ≠ l → upd H2 l (.lst (cs.map V.int)) a = some o := fun a o q z z2 => by rw [upd_ne z2]; exact k2 a o q z z2
    have s3 : ∀ a, H a ≠ none → upd H2 l (.lst (cs.map V.int)) a ≠ none := fun a q => upd_keep (s2 a q)
    generalize upd H2 l (.lst (cs.map V.int)) = H3 at hd3 hl3 k3 s3 ⊢
    refine ⟨_, rfl, _, _, rfl, rfl, ⟨by decide, by decide, by decide⟩, _, _, rfl, rfl, _, rfl, ?_⟩
    refine ite2 (fun hbig => ?_) (fun hbig => ?_)
    · skip
      have hmax : 0 < (if k > 2 then k else 2) ∧ (if k > 2 then k else 2) < 2 ^ 62 := by
        have e62 : (2 : Int) ^ 62 = 4611686018427387904 := by decide
        rw [e62] at hk2 ⊢
        split <;> omega
      refine ⟨_, rfl, _, _, rfl, dg_left hd3, .inl ⟨rfl, _, SqL.of hl3⟩, _, rfl, _, rfl, _, _, rfl, _, _, rfl, rfl, ⟨hmax.1, ?_⟩, _, _, _, rfl, rfl, hl3, by rw [List.length_map]; exact Nat.lt_of_le_of_lt (by omega : cs.length ≤ 63) (by decide), ?_⟩
      · have h9 : (if k > 2 then k else 2).natAbs < 2 ^ 62 := by
          have e62 : (2 : Int) ^ 62 = 4611686018427387904 := by decide
          have f62 : (2 : Nat) ^ 62 = 4611686018427387904 := by decide
          rw [e62] at hmax
          rw [f62]
          omega
        exact Nat.lt_of_le_of_lt (PySem.W.mg_log (k := 61) h9) (by decide)
      · refine ⟨_, rfl, .inl ⟨_, rfl, _, rfl, _, _, rfl, rfl, hk, ?_⟩⟩
        refine hQ _ (n + 1) (cs ++ [cell / (if k > 2 then k else 2)]) _ ⟨?_, ?_, fun a o q z z2 => ?_, fun a q => upd_keep (s3 a q)⟩ (by simpa using hcs) (mod_lt' hk).1 (mod_lt' hk).2
        · rw [upd_ne hdl]; exact hd3
        · rw [upd_same]; simp
        · rw [upd_ne z2]; exact k3 a o q z z2
    · refine ⟨_, rfl, _, rfl, .inl ⟨_, rfl, _, _, rfl, rfl, (by show (0 : Int) < 2147483629; decide), _, _, rfl, rfl, ?_⟩⟩
      exact draw4 hd3 hk fun r h1 h2 => hQ H3 (n + 1) cs r ⟨hd3, hl3, k3, s3⟩ (by omega) h1 h2
end
/-- what drawing keeps -/
def spDraw : DSp := fun W ds Q _ => ∃ d l k, W = some (d, l) ∧ ds = [.opq (.ref d), .int k] ∧ 0 < k ∧ k < 2 ^ 62 ∧ ∀ r, 0 ≤ r → r < k → Q (.int r)
theorem okDraw {P : Program} {w : World} {K : PySem.W.Frag} {mg : Str → Option Value} {base : Heap} {x qual : Str} {st : Stmt} {f : Addr} {fd : FuncData} {N ps : List Str} {c : Int} (F : Fun K x qual st f fd) (S : FnScope N ps (defScope st)) (hN : N.length = 4) (hp : ps.length = 2) (hc : -(2 ^ 64) < c ∧ c < 2 ^ 64)
    (body : ∀ (cdv : Value) (A : Around) (outer : List Env) (s : Shared) (H : Hp) (E : XK), Room 0 (A.deeper (envOfC qual (defScope st) s.heap.objs.size f cdv)) → PSs (cxD P w K mg base N qual st f cdv A outer s H E) (defBody st) (tDraw c K)) : FnOk P w K mg base (L2.CX P w) 1 f fd ps (liftSp ⟨K, mg⟩ spDraw) := by
  refine F.okX S (fun vs H Q E ⟨W, F, ds, Qd, Rd, h1, h2, h3, ⟨d, l, k, _, h4, _⟩, _⟩ => ?_) fun cdv A outer s H vs Q E hr ⟨W, F, ds, Qd, Rd, h1, h2, h3, ⟨d, l, k, hW, hds, hk, hk2, hq⟩, h5, h6⟩ => ?_
  · rw [h3.length, h4, hp]
    rfl
  · refine ⟨_, body cdv A outer s H E hr, ?_⟩
    subst hds hW
    obtain ⟨v1, v2, rfl, r1, r2⟩ : ∃ v1 v2, vs = [v1, v2] ∧ Rep ⟨K, mg⟩ F v1 (.opq (.ref d)) ∧ Rep ⟨K, mg⟩ F v2 (.int k) := by
      cases h3 with
      | cons a t =>
        cases t with
        | cons b t =>
          cases t
          exact ⟨_, _, rfl, a, b⟩
    cases r1
    cases r2
    have dk := h2 _ rfl
    obtain ⟨ns, m, n, e1, e2, e3, e4, e5⟩ := dk.st
    have es : L2.start N [V.ref d, V.int k] = [some (.ref d), some (.int k), none, none] := by
      unfold L2.start
      rw [hN]
      rfl
    rw [es]
    exact draw_law hc e1 e2 dk.ne e3 hk hk2 fun H' n' ns' r z hl hr0 hr1 => by
      obtain ⟨g, dk'⟩ := z.grow dk h1 hl e4 e5
      exact h5 _ (hq r hr0 hr1) F H' _ g dk' (.int r)
end ND

/-! ND10: making the deck; the law's own def -/
namespace ND
open PySem PySem.Spec L2
open PyProof.Rows (envOfC)

abbrev sL (K : PySem.W.Frag) : TE := tSl (rSlL K) (tVar 0) tNoPart (tPart (tC (V.int 63)))
abbrev tDeck (c b : Int) (K : PySem.W.Frag) : TS :=
  tSeq (tAsg (tC (V.int c)) (gName 1))
  (tSeq (tFor (iList K (sL K)) (gName 2) (tAsg (rP (iM (tCons (aP (aP (mP (tVar 1) (tC (V.int 48271))) (rP (iM (tCons (tVar 2) tNil)) (tC (V.int 2147483629)))) (tC (V.int b))) tNil)) (tC (V.int 2147483587))) (gName 1)))
  (tRet (tDisp [(tC (V.str "left"), tRevL K (tCB (fun xs H Q => ∃ p ys, xs = [V.ref p] ∧ (SqL K H p ys ∨ SqT K H p ys) ∧ ∀ l, H l = none → Q (V.ref l) (upd H l (.lst ys))) (tCons (sL K) tNil))), (tC (V.str "mixed"), tVar 1), (tC (V.str "draws"), tC (V.int 0))])))
theorem cut_ints (ns : List Int) (lo hi : Option Int) (h : ns.length ≤ 63) : ∃ ms : List Int, cutV (ns.map V.int) lo hi = ms.map V.int ∧ ms.length ≤ 63 := by
  refine ⟨(ns.drop (HT.sIx (ns.map V.int).length 0 lo)).take (HT.sIx (ns.map V.int).length (ns.map V.int).length hi - HT.sIx (ns.map V.int).length 0 lo), ?_, ?_⟩
  · unfold cutV
    rw [List.map_take, List.map_drop]
  · rw [List.length_take, List.length_drop]
    omega
theorem merge_deck (l : Addr) (m n : Int) : mergeK [] [((Sum.inr "left" : Key), V.ref l), (Sum.inr "mixed", V.int m), (Sum.inr "draws", V.int n)] = [((Sum.inr "left" : Key), V.ref l), (Sum.inr "mixed", V.int m), (Sum.inr "draws", V.int n)] := by
  have a1 := kl_m
  have a2 := kl_d
  have a3 := km_d
  simp [mergeK, putK, a1, a2, a3]
section
variable {K : PySem.W.Frag} {H : Hp} {a : Addr} {ns : List Int} {c b : Int} {D : Ends}
theorem deck_law (hc : 0 ≤ c ∧ c < 2147483587) (hS : SqL K H a (ns.map V.int)) (hn : ns.length ≤ 63)
    (hQ : ∀ (H' : Hp) (d l : Addr) (m : Int) (ns' : List Int), Same H H' → H d = none → H l = none → d ≠ l → H' d = some (deckO l m 0) → H' l = some (.lst (ns'.map V.int)) → ns'.length ≤ 63 → 0 ≤ m → m < 2147483587 → D.rt (.ref d) H') :
    tDeck c b K D [some (.ref a), none, none] H := by
  obtain ⟨ms, em, hm⟩ := cut_ints ns none (some 63) hn
  refine ⟨_, rfl, _, rfl, a, _, rfl, hS, fun p hp => ⟨p, rfl, ⟨_, SqL.of upd_same⟩, ?_⟩⟩
  have hSp : Same H (upd H p (.lst (ms.map V.int))) := same_new hp
  rw [em]
  refine for_list (K := K) (a := p) (xs := ms.map V.int) (fun i σ H' => H' = upd H p (.lst (ms.map V.int)) ∧ ∃ m v, σ = [some (.ref a), some (.int m), v] ∧ 0 ≤ m ∧ m < 2147483587) ⟨rfl, c, none, rfl, hc⟩ (fun i σ H' _ ⟨e, _⟩ => by rw [e]; exact SqL.of upd_same) ?_ ?_
  · rintro i y σ H' hi ⟨rfl, m, v, rfl, h1, h2⟩
    obtain ⟨z, rfl⟩ : ∃ z, y = V.int z := by
      obtain ⟨z, _, e⟩ := List.mem_map.mp (List.mem_of_getElem? hi)
      exact ⟨z, e.symm⟩
    exact ⟨_, rfl, _, _, rfl, rfl, .inr (small64 (by decide) (by decide)), _, rfl, .inl ⟨_, rfl, _, _, rfl, rfl, (by show (0 : Int) < 2147483629; decide), _, _, rfl, rfl, _, _, rfl, rfl, .inl ⟨_, rfl, _, _, rfl, rfl, (by show (0 : Int) < 2147483587; decide), rfl, _, _, rfl, mod_lt' (by decide)⟩⟩⟩
  · rintro σ H' ⟨rfl, m, v, rfl, h1, h2⟩
    generalize upd H p (.lst (ms.map V.int)) = H1 at hSp
    intro d hd
    have hS1 : Same H1 (upd H1 d (.dK [])) := same_new hd
    have hd2 : upd H1 d (.dK []) d = some (.dK []) := upd_same
    have d0 := hSp.free hd
    have hS' := hSp.trans hS1
    generalize upd H1 d (.dK []) = H2 at hd2 hS'
    refine ⟨_, rfl, _, rfl, a, _, rfl, hS'.seq hS, fun q hq => ?_⟩
    have hd3 : upd H2 q (.lst (cutV (ns.map V.int) none (some 63))) d = some (.dK []) := by rw [upd_ne (ne_of_none hd2 hq)]; exact hd2
    have hS3 := hS'.trans (same_new (o := .lst (cutV (ns.map V.int) none (some 63))) hq)
    have hq3 : upd H2 q (.lst (cutV (ns.map V.int) none (some 63))) q = some (.lst (cutV (ns.map V.int) none (some 63))) := upd_same
    generalize upd H2 q (.lst (cutV (ns.map V.int) none (some 63))) = H3 at hd3 hS3 hq3
    refine ⟨q, _, rfl, .inl (SqL.of hq3), fun r hr => ?_⟩
    rw [em] at hq3 ⊢
    have hd4 : upd H3 r (.lst (ms.map V.int)) d = some (.dK []) := by rw [upd_ne (ne_of_none hd3 hr)]; exact hd3
    have hS4 := hS3.trans (same_new (o := .lst (ms.map V.int)) hr)
    have hr4 : upd H3 r (.lst (ms.map V.int)) r = some (.lst (ms.map V.int)) := upd_same
    generalize upd H3 r (.lst (ms.map V.int)) = H4 at hd4 hS4 hr4
    refine ⟨r, _, rfl, SqL.of hr4, fun l hl => ?_⟩
    have ndl : d ≠ l := ne_of_none hd4 hl
    have l0 := hS4.free hl
    have er : (ms.map V.int).reverse = (ms.reverse).map V.int := by rw [List.map_reverse]
    rw [er]
    refine ⟨_, rfl, by rw [upd_ne ndl]; exact hd4, [(.inr "left", .ref l), (.inr "mixed", .int m), (.inr "draws", .int 0)], rfl, (by show 3 ≤ 15; decide), ?_⟩
    rw [merge_deck]
    refine hQ _ d l m ms.reverse (fun b o e => ?_) d0 l0 ndl upd_same (by rw [upd_ne ndl.symm]; exact upd_same) (by simpa using hm) h1 h2
    have nb : b ≠ d := fun z => by rw [z, d0] at e; cases e
    rw [upd_ne nb]
    have nb2 : b ≠ l := fun z => by rw [z, l0] at e; cases e
    rw [upd_ne nb2]
    exact hS4 _ _ e
end
/-- a new deck -/
def spDeck (K : PySem.W.Frag) : Sp := fun vs H Q _ => ∃ (a : Addr) (ns : List Int), vs = [.ref a] ∧ SqL K H a (ns.map V.int) ∧ ns.length ≤ 63 ∧ ∀ H' d l, Same H H' → H d = none → H l = none → DeckAt (d, l) (fun _ => none) H' → Q (.ref d) H'
theorem okDeck {P : Program} {w : World} {K : PySem.W.Frag} {mg : Str → Option Value} {base : Heap} {x qual : Str} {st : Stmt} {f : Addr} {fd : FuncData} {N ps : List Str} {c b : Int} (F : Fun K x qual st f fd) (S : FnScope N ps (defScope st)) (hN : N.length = 3) (hp : ps.length = 1) (hc : 0 ≤ c ∧ c < 2147483587)
    (body : ∀ (cdv : Value) (A : Around) (outer : List Env) (s : Shared) (H : Hp) (E : XK), Room 0 (A.deeper (envOfC qual (defScope st) s.heap.objs.size f cdv)) → PSs (cxD P w K mg base N qual st f cdv A outer s H E) (defBody st) (tDeck c b K)) : FnOk P w K mg base (L2.CX P w) 1 f fd ps (spDeck K) := by
  refine F.okX S (fun vs H Q E ⟨a, ns, h1, _⟩ => ?_) fun cdv A outer s H vs Q E hr ⟨a, ns, h1, h2, h3, h4⟩ => ⟨_, body cdv A outer s H E hr, ?_⟩
  · rw [h1, hp]
    rfl
  · subst h1
    have es : L2.start N [V.ref a] = [some (.ref a), none, none] := by
      unfold L2.start
      rw [hN]
      rfl
    rw [es]
    exact deck_law hc h2 h3 fun H' d l m ns' s1 d0 l0 ndl e1 e2 hl m0 m1 => h4 H' d l s1 d0 l0 ⟨rfl, rfl, ndl, ns', m, 0, e1, e2, hl, m0, m1⟩

/-! ### the law: its first statement makes the deck -/
def hp0 : Hp := fun _ => none
theorem pss_deck {X : Cx} {rest : List Stmt} {g : WD → GS} (h : ∀ p H0, SDs ⟨some p, hp0, H0⟩ X rest (g (some p))) : PSs X rest fun Dn s H => ∃ p H0, LS ⟨some p, hp0, H0⟩ X.kn (g (some p)) Dn s H :=
  ⟨fun pins s σ H Dn I ⟨p, H0, q⟩ => (h p H0).run.run pins s σ H Dn I q⟩
/-- what the law promises -/
def spLaw (K : PySem.W.Frag) : Sp := fun vs H Q _ => ∃ (a : Addr) (script : List Int), vs = [.ref a] ∧ SqL K H a (script.map V.int) ∧ script.length ≤ 63 ∧ ∀ G, Q (.bl true) G
theorem okLaw {P : Program} {w : World} {K : PySem.W.Frag} {mg : Str → Option Value} {base : Heap} {x qual : Str} {st s0 : Stmt} {rest : List Stmt} {f : Addr} {fd : FuncData} {N : List Str} {y : Str} {k : Nat} {g : WD → GS} (F : Fun K x qual st f fd) (S : FnScope N [y] (defScope st)) (hN : 1 < N.length)
    (hst : defBody st = s0 :: rest)
    (body : ∀ (cdv : Value) (A : Around) (outer : List Env) (s : Shared) (H : Hp) (E : XK), (A.deeper (envOfC qual (defScope st) s.heap.objs.size f cdv)).guards = some [] → Room k (A.deeper (envOfC qual (defScope st) s.heap.objs.size f cdv)) →
      PassesOwn (model P w) (cxD P w K mg base N qual st f cdv A outer s H E).A (cxD P w K mg base N qual st f cdv A outer s H E).env (cxD P w K mg base N qual st f cdv A outer s H E).xe →
      Passes (L2.CX P w) (cxD P w K mg base N qual st f cdv A outer s H E) E →
      PS (cxD P w K mg base N qual st f cdv A outer s H E) s0 (tAsg (tCall (spDeck K) [] E (tCons (tVar 0) tNil)) (gName 1)) ∧
      ∀ p H0, SDs ⟨some p, hp0, H0⟩ (cxD P w K mg base N qual st f cdv A outer s H E) rest (g (some p)))
    (law : ∀ (d l : Addr) (v : V), g (some (d, l)) (endsD fun r => r = .bl true) (.d (.opq v) :: .d (.opq (.ref d)) :: List.replicate (N.length - 2) .no)) : FnG P w K mg base (k + 1) f fd [y] (spLaw K) := by
  obtain ⟨oc, od, kV, doc, pm, an, cdv, ct, osl, rfl, lk, hcd⟩ := F.ex
  refine fn_ofG lk hcd S (fun vs H Q E ⟨a, ns, h1, _⟩ => by rw [h1]; rfl) fun A outer s H vs Q E hG hr ⟨a, ns, h1, h2, h3, h4⟩ => ?_
  subst h1
  obtain ⟨b1, b2⟩ := body cdv A outer s H E hG hr (passes_of rfl) (passes_call (takes_of rfl rfl rfl rfl) fun _ _ _ _ z => z)
  have b3 := pss_cons b1 (pss_deck b2)
  rw [← hst] at b3
  refine ⟨_, b3, ?_⟩
  have es : L2.start N [V.ref a] = some (.ref a) :: none :: List.replicate (N.length - 2) none := by
    unfold L2.start
    obtain ⟨m, hm⟩ : ∃ m, N.length = m + 2 := ⟨N.length - 2, by omega⟩
    rw [hm]
    rfl
  rw [es]
  refine ⟨_, rfl, a, ns, rfl, h2, h3, fun H' d l s1 d0 l0 dk => ?_⟩
  refine ⟨(d, l), H', .d (.opq (.ref a)) :: .d (.opq (.ref d)) :: List.replicate (N.length - 2) .no, hp0, endsD fun r => r = .bl true, ?_, law d l (.ref a), ?_⟩
  · have dki : DeckIn (some (d, l)) hp0 H' := fun p hp => by cases hp; exact dk
    refine ⟨Grow.refl fun _ _ z => (nomatch z), dki, dki, by simp, fun _ => none, ⟨fun i j a z => (nomatch z), fun i a z => (nomatch z)⟩, fun i z v e1 e2 => ?_⟩
    match i with
    | 0 =>
      simp only [List.getElem?_cons_zero, Option.some.injEq] at e1
      have e2' : some (some (V.ref a)) = some v := e2
      cases e2'
      subst e1
      exact .opq _
    | 1 =>
      have e1' : some (SV.d (.opq (.ref d))) = some z := e1
      have e2' : some (some (V.ref d)) = some v := e2
      cases e1'
      cases e2'
      exact .opq _
    | i + 2 =>
      have e1' : (List.replicate (N.length - 2) SV.no)[i]? = some z := e1
      have e2' : (List.replicate (N.length - 2) (none : Option V))[i]? = some v := e2
      have h1 := List.eq_of_mem_replicate (List.mem_of_getElem? e1')
      have h2 := List.eq_of_mem_replicate (List.mem_of_getElem? e2')
      subst h1 h2
      exact True.intro
  · refine ⟨fun _ _ _ _ _ _ z => ?_, fun r v F' H2 _ _ rv e => ?_, fun _ _ _ _ _ _ z => z.elim, fun _ _ _ _ _ _ z => z.elim⟩
    · cases (show D.non = .bl true from z)
    · subst e
      cases rv
      exact h4 _
end ND

/-! ND11: the end of a law, from FnG -/
namespace ND
open PySem PySem.Spec L2 PyProof.Rows
open PyProof.Rows (envOfC)

/-- the script alone is tracked, if it is not of the written part -/
def scH (K : PySem.W.Frag) (a : Addr) (o : Obj) (ns : List Int) : Hp := fun b => if b = a ∧ K.lookup a = none then some (.frz o (.lst (ns.map V.int))) else none
theorem scH_some {K : PySem.W.Frag} {a b : Addr} {o : Obj} {ns : List Int} {u : HO} (h : scH K a o ns b = some u) : b = a ∧ K.lookup a = none ∧ u = .frz o (.lst (ns.map V.int)) := by
  unfold scH at h
  split at h
  · rename_i c
    cases h
    exact ⟨c.1, c.2, rfl⟩
  · cases h
theorem scH_none {K : PySem.W.Frag} {a b : Addr} {o : Obj} {ns : List Int} (h : b = a → K.lookup a ≠ none) : scH K a o ns b = none := by
  unfold scH
  rw [if_neg fun c => h c.1 c.2]
theorem run_law {P : Program} {w : World} {K : PySem.W.Frag} {mg mb : Str → Option Value} {k : Nat} {fa a : Addr} {fd : FuncData} {x : Str} {sp : Sp} {t : Shared} {vs : List Value} {ns : List Int}
    (KX : K.In t.heap) (nsM : t.heap.Ns mainGlobals mg) (nsB : t.heap.Ns builtinsNs mb) (bb : ∀ y : Str, y ≠ "__name__" → mb y = bootBuiltins y) (lim : t.heap.NoLimit) (gens : t.gens = #[])
    (ha : t.heap.get? a = some { cls := .type "list", data := .seq vs.toArray }) (hi : IntsAre vs ns) (hl : ns.length ≤ sizeLine) (room : Room k callerA)
    (G : ∀ base : Heap, K.In base → base.Ns mainGlobals mg → FnG P w K mg base k fa fd [x] sp) (bind : ∀ (s : Shared) (u : Value), BindsTo s fd ⟨[u], []⟩ [(x, u)])
    (ask : ∀ H : Hp, SqL K H a (ns.map V.int) → sp [.ref a] H (fun v _ => v = .bl true) fun _ _ _ => False) :
    codeAny (model P w) callerA (.call (.ref fa) ⟨[.ref a], []⟩) (fun r s' => r = .ok (.ret (.bool true)) ∧ OldK t.heap s'.heap ∧ s'.os = t.os ∧ AllBare s'.gens) t := by
  have vals := vals_ints hi
  have sameLen := hi.length
  generalize hH : scH K a { cls := .type "list", data := .seq vs.toArray } ns = H
  have inH : ∀ {b : Addr} {u : HO}, H b = some u → b = a ∧ K.lookup a = none ∧ u = .frz { cls := .type "list", data := .seq vs.toArray } (.lst (ns.map V.int)) := fun e => by
    rw [← hH] at e
    exact scH_some e
  have outH : ∀ {b : Addr}, (b = a → K.lookup a ≠ none) → H b = none := fun e => by
    rw [← hH]
    exact scH_none e
  have seqA : SqL K H a (ns.map V.int) := by
    cases ek : K.lookup a with
    | none =>
      refine .inl (.inr ⟨{ cls := .type "list", data := .seq vs.toArray }, ?_⟩)
      rw [← hH]
      unfold scH
      rw [if_pos ⟨rfl, ek⟩]
    | some o =>
      have same := KX a o ek
      rw [ha] at same
      cases same
      exact .inr ⟨_, vs.toArray, _, ek, rfl, rfl, rfl, by rw [List.size_toArray, sameLen]; exact hl, by simpa using vals⟩
  have okH : HOk P w H t.heap := fun b u e => by
    obtain ⟨rfl, _, rfl⟩ := inH e
    exact ⟨ha, by rw [List.length_map]; exact hl, vs, _, vals, ha⟩
  have stays : ∀ {b : Addr} {o : Obj}, t.heap.get? b = some o → H b = none → (hidT t.heap H).get? b = some o := fun e n => hidT_get e n
  have nsStays : ∀ {b : Addr} {m : Str → Option Value}, t.heap.Ns b m → (hidT t.heap H).Ns b m := fun {b m} ⟨o, es, ep, e, dt, r⟩ => by
    refine ⟨o, es, ep, stays e ?_, dt, r⟩
    cases q : H b with
    | none => rfl
    | some u =>
      obtain ⟨rfl, _, _⟩ := inH q
      rw [ha] at e
      cases e
      exact absurd (show Data.seq vs.toArray _ = Data.dict es ep from dt) (by intro z; cases z)
  have kIn : K.In (hidT t.heap H) := fun b o e => stays (KX b o e) (outH fun z => by
    subst z
    rw [e]
    exact Option.some_ne_none _)
  obtain ⟨mc, l1, l2⟩ := lim
  have env : Env0 P w K mg (hidT t.heap H) callerA [] t H := ⟨rfl, ⟨kIn, nsStays nsM, ⟨mb, nsStays nsB, bb⟩, mc, nsStays l1, l2⟩, fun b o e => of_hidT e, Nat.le_of_eq (hidT_size _ _), trivial, fun b hb => (nomatch hb), okH, .of_eq gens⟩
  have run := (G _ kIn (nsStays nsM)).run callerA [] t H ⟨[.ref a], []⟩ [.ref a] [.ref a] _ _ rfl room env (bind t (.ref a)) (.cons rfl .nil) (ask H seqA)
  refine codeAny_mono run fun r s' h => ?_
  rcases r with e | fl
  · obtain ⟨_, _, _, _, _, _, _, _, _, _, _, _, no⟩ := (show L2.CX P w [] H t (fun _ _ _ => False) e s' from h)
    exact no.elim
  · cases fl with
    | ret u =>
      obtain ⟨v, H', os, bare, un, hok', r', q⟩ := h
      have q' : v = .bl true := q
      subst q'
      obtain rfl : u = Value.bool true := r'
      refine ⟨rfl, OldK.of_keep fun b o e => ?_, os, bare⟩
      cases q : H b with
      | none => exact un.keep b o e q (fun z => (nomatch z)) (by simp)
      | some u =>
        obtain ⟨rfl, _, rfl⟩ := inH q
        obtain ⟨g1, _⟩ := hok' b _ (un.frzs b _ _ q)
        rw [ha] at e
        cases e
        exact g1
    | next => exact False.elim h
    | brk => exact False.elim h
    | cont => exact False.elim h
theorem walkG {l : PySem.W.OpenLaw} {k : Nat} {q : Program} {loose : List Str} {XP : (Str → Option Value) → Heap → Prop} {YP : World → Heap → Prop} {d : DefRec} {K : Params → PySem.W.Frag} {x : Str}
    (hn : l.most = some 63) (hdf : d.params.defaults = []) (hr : Room k callerA) (hY : ∀ (w : World) (h : Heap), YP w h → (K w.params).In h)
    (G : ∀ (w : World) (mg : Str → Option Value) (fa : Addr) (h : Heap), (K w.params).In h → h.Ns mainGlobals mg → mg d.name = some (.ref fa) →
      ∃ fd : FuncData, (∀ (s : Shared) (u : Value), BindsTo s fd ⟨[u], []⟩ [(x, u)]) ∧ ∀ base : Heap, (K w.params).In base → base.Ns mainGlobals mg → FnG l.prog w (K w.params) mg base k fa fd [x] (spLaw (K w.params))) :
    PySem.W.WalkO q loose XP YP l.row.toRowW d [] (fun f vs => PySem.call f vs) := by
  refine Att.attach_callB hn hdf fun w s₀ t mg mb fa o pm cd doc a vs ns Gd Y ho hd hcd hmg hobj hints hlen hbits hg => ?_
  have inK := hY w _ Y
  obtain ⟨fd, bind, run⟩ := G w mg fa _ inK Gd.T.g hmg
  exact run_law inK Gd.T.g Gd.T.b Gd.T.builtins Gd.T.nolimit hg hobj hints (Nat.le_trans hlen (by decide)) hr run bind fun H hS => ⟨a, ns, rfl, hS, hlen, fun _ => rfl⟩
theorem hu65_of {A : Around} {k : Nat} (hr : Room k A) : A.units + 65 < cLine := by have := hr.un; omega
end ND
namespace ND
open PySem PySem.Spec L2
/-! ### for the plain laws -/
@[simp] theorem addD_i (i j : Int) (Q : D → Prop) : addD (.int i) (.int j) Q = Q (.int (i + j)) := rfl
@[simp] theorem addD_s (i j : Str) (Q : D → Prop) : addD (.str i) (.str j) Q = (i.length + j.length ≤ sizeLine ∧ Q (.str (i ++ j))) := rfl
@[simp] theorem addD_t (i j : List D) (Q : D → Prop) : addD (.tup i) (.tup j) Q = (i.length + j.length ≤ sizeLine ∧ Q (.tup (i ++ j))) := rfl
@[simp] theorem addD_l (i j : List D) (Q : D → Prop) : addD (.lst i) (.lst j) Q = (i.length + j.length ≤ sizeLine ∧ Q (.lst (i ++ j))) := rfl
@[simp] theorem subD_i (i j : Int) (Q : D → Prop) : subD (.int i) (.int j) Q = Q (.int (i - j)) := rfl
@[simp] theorem mulD_i (i j : Int) (Q : D → Prop) : mulD (.int i) (.int j) Q = (ND.MulOk i j ∧ Q (.int (i * j))) := rfl
@[simp] theorem fdivD_i (i j : Int) (Q : D → Prop) : fdivD (.int i) (.int j) Q = (0 < j ∧ j.natAbs.log2 < 9000 ∧ Q (.int (i / j))) := rfl
@[simp] theorem modD_i (i j : Int) (Q : D → Prop) : modD (.int i) (.int j) Q = (0 < j ∧ Q (.int (i % j))) := rfl
@[simp] theorem powD_i (i j : Int) (Q : D → Prop) : powD (.int i) (.int j) Q = (0 ≤ j ∧ j ≤ 1000000 ∧ i.natAbs < 2 ^ 64 ∧ Q (.int (i ^ j.toNat))) := rfl
@[simp] theorem negD_i (i : Int) (Q : D → Prop) : negD (.int i) Q = Q (.int (-i)) := rfl
@[simp] theorem ltD_i (i j : Int) (Q : D → Prop) : ltD (.int i) (.int j) Q = Q (.bl (decide (i < j))) := rfl
@[simp] theorem leD_i (i j : Int) (Q : D → Prop) : leD (.int i) (.int j) Q = Q (.bl (decide (i ≤ j))) := rfl
@[simp] theorem gtD_i (i j : Int) (Q : D → Prop) : gtD (.int i) (.int j) Q = Q (.bl (decide (j < i))) := rfl
@[simp] theorem geD_i (i j : Int) (Q : D → Prop) : geD (.int i) (.int j) Q = Q (.bl (decide (j ≤ i))) := rfl
@[simp] theorem truthD_b (i : Bool) (Q : Bool → Prop) : truthD (.bl i) Q = Q i := rfl
@[simp] theorem truthD_n (Q : Bool → Prop) : truthD .non Q = Q false := rfl
@[simp] theorem truthD_i (i : Int) (Q : Bool → Prop) : truthD (.int i) Q = Q (i != 0) := rfl
@[simp] theorem truthD_t (i : List D) (Q : Bool → Prop) : truthD (.tup i) Q = Q (!i.isEmpty) := rfl
@[simp] theorem truthD_l (i : List D) (Q : Bool → Prop) : truthD (.lst i) Q = Q (!i.isEmpty) := rfl
@[simp] theorem lenD_l (i : List D) (Q : D → Prop) : lenD [.lst i] Q = Q (.int i.length) := rfl
@[simp] theorem lenD_t (i : List D) (Q : D → Prop) : lenD [.tup i] Q = Q (.int i.length) := rfl
@[simp] theorem lenD_s (x : Str) (Q : D → Prop) : lenD [.str x] Q = (x.length ≤ sizeLine ∧ Q (.int x.length)) := rfl
@[simp] theorem intD_i (i : Int) (Q : D → Prop) : intD [.int i] Q = Q (.int i) := rfl
@[simp] theorem intD_b (i : Bool) (Q : D → Prop) : intD [.bl i] Q = Q (.int (if i = true then 1 else 0)) := rfl
@[simp] theorem intD_s (x : Str) (Q : D → Prop) : intD [.str x] Q = (∃ n, intText? x = some n ∧ x.length ≤ 640 ∧ Q (.int n)) := rfl
@[simp] theorem absD_i (i : Int) (Q : D → Prop) : absD [.int i] Q = Q (.int (if i < 0 then -i else i)) := rfl
@[simp] theorem max2D_i (i j : Int) (Q : D → Prop) : max2D [.int i, .int j] Q = Q (.int (if j > i then j else i)) := rfl
@[simp] theorem min2D_i (i j : Int) (Q : D → Prop) : min2D [.int i, .int j] Q = Q (.int (if j < i then j else i)) := rfl
@[simp] theorem gcdD_i (i j : Int) (Q : D → Prop) : gcdD [.int i, .int j] Q = Q (.int ((Nat.gcd i.natAbs j.natAbs : Nat) : Int)) := rfl
@[simp] theorem isqrtD_i (i : Int) (Q : D → Prop) : isqrtD [.int i] Q = (0 ≤ i ∧ i.toNat.log2 < 13000 ∧ Q (.int ((Float64.isqrt i.toNat : Nat) : Int))) := rfl
@[simp] theorem isiD_t (x : D) (T : String) (Q : D → Prop) : isiD [x, .opq (.ty T)] Q = (knownT T = true ∧ (tyD x).isSome = true ∧ Q (.bl (isiB T x))) := rfl
@[simp] theorem reprD_x (x : D) (Q : D → Prop) : reprD [x] Q = (pl 64 x = true ∧ (toPy x).showable = true ∧ (toPy x).shown.length ≤ sizeLine ∧ Q (.str (toPy x).shown)) := rfl
@[simp] theorem repS_i (x : Str) (k : Int) (Q : D → Prop) : repS (.str x) (.int k) Q = (1 ≤ k ∧ x.length * k.toNat ≤ sizeLine ∧ x.length ≠ 0 ∧ Q (.str (Txt.mul x k))) := rfl
@[simp] theorem eqD_s (a b : Str) (Q : D → Prop) : eqD (.str a) (.str b) Q = Q (.bl (decide (a = b))) := rfl
@[simp] theorem neD_s (a b : Str) (Q : D → Prop) : neD (.str a) (.str b) Q = Q (.bl (!decide (a = b))) := rfl
@[simp] theorem eqD_l (a : List D) (y : D) (Q : D → Prop) : eqD (.lst a) y Q = (pl 64 (.lst a) = true ∧ pl 64 y = true ∧ Q (.bl (eqb (.lst a) y))) := rfl
@[simp] theorem neD_l (a : List D) (y : D) (Q : D → Prop) : neD (.lst a) y Q = (pl 64 (.lst a) = true ∧ pl 64 y = true ∧ Q (.bl (!eqb (.lst a) y))) := rfl
@[simp] theorem eqD_t (a : List D) (y : D) (Q : D → Prop) : eqD (.tup a) y Q = (pl 64 (.tup a) = true ∧ pl 64 y = true ∧ Q (.bl (eqb (.tup a) y))) := rfl
@[simp] theorem neD_t (a : List D) (y : D) (Q : D → Prop) : neD (.tup a) y Q = (pl 64 (.tup a) = true ∧ pl 64 y = true ∧ Q (.bl (!eqb (.tup a) y))) := rfl
@[simp] theorem knInt : knownT "int" = true := by decide
@[simp] theorem knBool : knownT "bool" = true := by decide
@[simp] theorem knTup : knownT "tuple" = true := by decide
@[simp] theorem knList : knownT "list" = true := by decide
@[simp] theorem knStr : knownT "str" = true := by decide
@[simp] theorem knDict : knownT "dict" = true := by decide
@[simp] theorem eqb_int (i j : Int) : eqb (.int i) (.int j) = decide (i = j) := by simp [eqb, toPy, PyData.eqv, BEq.beq]
@[simp] theorem eqb_str (i j : Str) : eqb (.str i) (.str j) = decide (i = j) := by
  simp only [eqb, toPy, PyData.eqv]
  rw [Bool.eq_iff_iff]
  simp
@[simp] theorem eqb_nil : eqb (.lst []) (.lst []) = true := by decide +kernel
@[simp] theorem pl_int (n : Nat) (i : Int) : pl n (.int i) = true := by cases n <;> simp [pl]
@[simp] theorem pl_bl (n : Nat) (i : Bool) : pl n (.bl i) = true := by cases n <;> simp [pl]
@[simp] theorem pl_non (n : Nat) : pl n .non = true := by cases n <;> simp [pl]
@[simp] theorem eqD_i (i j : Int) (Q : D → Prop) : eqD (.int i) (.int j) Q = Q (.bl (decide (i = j))) := by
  show (pl 64 (.int i) = true ∧ pl 64 (.int j) = true ∧ Q (.bl (eqb (.int i) (.int j)))) = _
  simp
@[simp] theorem neD_i (i j : Int) (Q : D → Prop) : neD (.int i) (.int j) Q = Q (.bl (!decide (i = j))) := by
  show (pl 64 (.int i) = true ∧ pl 64 (.int j) = true ∧ Q (.bl (!eqb (.int i) (.int j)))) = _
  simp
@[simp] theorem ix_t3_0 (a b c : D) (Q : D → Prop) : ixD (.tup [a, b, c]) (.int 0) Q = Q a := by simp [ixD, atI, ixN]
@[simp] theorem ix_t3_1 (a b c : D) (Q : D → Prop) : ixD (.tup [a, b, c]) (.int 1) Q = Q b := by simp [ixD, atI, ixN]
@[simp] theorem ix_t3_2 (a b c : D) (Q : D → Prop) : ixD (.tup [a, b, c]) (.int 2) Q = Q c := by simp [ixD, atI, ixN]
@[simp] theorem lineLe (n : Nat) (h : n ≤ 1000 := by decide) : n ≤ sizeLine ↔ True := ⟨fun _ => trivial, fun _ => Nat.le_trans h (by decide)⟩
end ND

/-! ND12: own errors over Exception, with one field -/
namespace ND
open PySem PySem.Spec L2 Builtin Builtin.ObjectAttr
open PyProof.Rows (envOfC)

abbrev exT : List Value := [.type "Exception", .type "BaseException", .type "object"]
/-- what the written part says of an error's class nm, at C, whose __init__(self, fld) stores fld -/
structure ErC (K : PySem.W.Frag) (mg : Str → Option Value) (nm fld : Str) (C fI : Addr) : Prop where
  gC : mg nm = some (.ref C)
  ini : PySem.W.excInitIn K C exT "Exception.__new__" = true
  ovr : PySem.W.excOver K C exT = true
  tkr : PySem.W.takerIn K C fld = some none
  noN : PySem.W.findIn K (.ref C) fld = some none
  sa : PySem.W.findIn K (.ref C) "__setattr__" = some (some (.builtin "object.__setattr__"))
  iC : PySem.W.findIn K (.ref C) "__init__" = some (some (.ref fI))
  tC : PySem.W.typeIn K (.ref fI) = some (.type "function")
  kC : PySem.W.keepIn K (.ref C) = true
  exC : PySem.W.subIn K (.ref C) (.type "BaseException") = some true
  tyC : PySem.W.typeIn K (.ref C) = some (.type "type")
  hdC : PySem.W.hasDictIn K C = true
section
variable {prog : Program} {w : World} {A : Around} {E : Value → Shared → Prop} {R : Result → Shared → Prop} {hp : Heap} {g : Array GenState} {d : Drawn} {t : Nat} {os : OsState} {K : PySem.W.Frag} {mg : Str → Option Value} {nm fld : Str} {C fI : Addr}
theorem er_store {tk : Tok} {v : Value} {x t0 : Addr} (T : ErC K mg nm fld C fI) (X : K.In hp) (hx : hp.get? x = some (HandSPX.excO C t0))
    (hq : ∀ h' tk' dx, (∀ b o, b ≠ x → hp.get? b = some o → h'.get? b = some o) → hp.objs.size ≤ dx → dx ≠ x → h'.get? x = some { cls := .ref C, dict := some dx, data := .fields #[.ref t0, .none, .none, .none, .bool false, .none] } →
      h'.Ns1 dx (fun y => if y = fld then some v else none) → R (.ok (.ret .none)) ⟨h', g, d, tk', os⟩) :
    codeAny (model prog w) A (.call (.builtin "object.__setattr__") ⟨[.ref x, .str fld tk, v], []⟩) R ⟨hp, g, d, t, os⟩ := by
  obtain ⟨cd, hc, _⟩ := PySem.W.any_some T.ovr
  have hh : cd.hasDict = true := by
    have h1 := T.hdC
    unfold PySem.W.hasDictIn at h1
    rw [hc] at h1
    exact h1
  have other : x ≠ hp.objs.size := Nat.ne_of_lt (Heap.lt_size hx)
  refine PySem.W.osa_openX (s := ⟨hp, g, d, t, os⟩) F.store_Exception X (ox := HandSPX.excO C t0) (od := none) ⟨hx, rfl, rfl, trivial⟩ T.ovr T.tkr fun b => ?_
  have hcls : PySem.W.Looks (model prog w) hp (classData C) cd := PySem.W.looks_clsIn X hc
  obtain ⟨cn, bs, mro, ns, qn, hd, sn, sb, ab, col, del⟩ := cd
  dsimp only at hh
  subst hh
  show wpAny _ _ (storeInOwnDict (.ref x) (.ref C) (.str fld tk) fld v b) _ _ _
  unfold storeInOwnDict ownDictForStores
  repeat (first | with_reducible refine HandSPX.store_in_new ?_ ?_ | with_reducible refine wpAny_loadPart_at hx ?_ | with_reducible refine hcls.at ?_ | wp_step)
  · exact ⟨_, #[], _, (Heap.get?_update_ne _ _ _ _ other.symm).trans (Heap.get?_push_at rfl rfl), rfl, fun e he => absurd he (by simp), fun _ => rfl⟩
  · intro h' tk' named only
    have still : (hp.push { cls := .type "dict", data := .dict #[] }).get? x = some (HandSPX.excO C t0) := Heap.get?_push_of_some _ hx
    exact hq h' tk' hp.objs.size (fun b o hb ho => (only.2 b (Nat.ne_of_lt (Heap.lt_size ho))).trans ((Heap.get?_update_ne _ _ _ _ hb).trans (Heap.get?_push_of_some _ ho))) (Nat.le_refl _) other.symm ((only.2 x other).trans (Heap.get?_update_self _ still rfl)) named
/-- what is left of C(v): the error at e, its dict at dx -/
structure ErMade (h h' : Heap) (e C dx : Addr) (fld : Str) (v : Value) : Prop where
  keep : ∀ b o, h.get? b = some o → h'.get? b = some o
  new : h.objs.size ≤ e
  obj : ∃ oe vs, h'.get? e = some oe ∧ oe.cls = .ref C ∧ oe.dict = some dx ∧ oe.data = .fields vs ∧ vs[1]? = some .none
  big : h.objs.size ≤ dx
  ne : dx ≠ e
  ns : h'.Ns1 dx (fun y => if y = fld then some v else none)
/-- the text of __init__(self, fld): self.fld = fld -/
structure ErInit (K : PySem.W.Frag) (qual fld : Str) (st : Stmt) (fI : Addr) : Prop where
  fn : ∃ fd, Fun K "__init__" qual st fI fd
  body : ∃ q1 q2 q3 q4, defBody st = [.Assign [.Attribute (.Name "self" q1) fld q2] (.Name fld q3) q4]
  bind : ∀ (kV doc pm : Value) (an : Option Addr) (cdv ct a b : Value), bindArgs (PySem.W.fnOf "__init__" qual (defArgs st) (defBody st) (defScope st) .none kV doc pm an cdv ct) ⟨[a, b], []⟩ = pure [(("self" : Str), a), (fld, b)]
  kinds : ∀ a b : Value, ([(("self" : Str), a), (fld, b)].all fun y => (defScope st).names.lookup y.1 == some .local || (defScope st).names.lookup y.1 == some .cell) = true
  kSelf : ∀ L a cd, (envOfC qual (defScope st) L a cd).kindOf "self" = some .local
  kFld : ∀ L a cd, (envOfC qual (defScope st) L a cd).kindOf fld = some .local
  bSelf : ∀ L a cd (u v : Value), bindL (envOfC qual (defScope st) L a cd).kindOf [(("self" : Str), u), (fld, v)] (fun _ => none) "self" = some u
  bFld : ∀ L a cd (u v : Value), bindL (envOfC qual (defScope st) L a cd).kindOf [(("self" : Str), u), (fld, v)] (fun _ => none) fld = some v
  sc : (defScope st).kind = .function ∧ (defScope st).isGenerator = false ∧ (defScope st).isCoroutine = false
  nd : (fld == ("__debug__" : Str)) = false
theorem er_local {M : Model} {s : Shared} {env : Env} {x : Str} {pos : Pos} {v : Value} {m : Str → Option Value} {Q : Value → Shared → Prop} {A : Around} {E : Value → Shared → Prop} (hk : env.scope.kind = .function) (hl : env.kindOf x = some .local) (hn : s.heap.Ns env.locals m) (hv : m x = some v) (hd : (x == ("__debug__" : Str)) = false) (h : Q v s) :
    wpAny M A (eval (.Name x pos) env) Q E s := wpAny_Name (wpAny_loadName_local hk hl hn hv h) hd
theorem er_init {s : Shared} {x t0 : Addr} {v : Value} {qual : Str} {st : Stmt} (T : ErC K mg nm fld C fI) (N : ErInit K qual fld st fI) (X : K.In s.heap) (lim : s.heap.NoLimit) (hx : s.heap.get? x = some (HandSPX.excO C t0)) (room : A.depth < recursionLimit)
    (hq : ∀ h' tk dx, (∀ b o, b ≠ x → s.heap.get? b = some o → h'.get? b = some o) → s.heap.objs.size ≤ dx → dx ≠ x → h'.get? x = some { cls := .ref C, dict := some dx, data := .fields #[.ref t0, .none, .none, .none, .bool false, .none] } →
      h'.Ns1 dx (fun y => if y = fld then some v else none) → R (.ok (.ret .none)) { s with heap := h', toks := tk }) :
    codeAny (model prog w) A (.call (.ref fI) ⟨[.ref x, v], []⟩) R s := by
  obtain ⟨fd, oc, od, kV, doc, pm, an, cdv, ct, osl, rfl, here, code⟩ := N.fn.imp fun _ F => F.ex
  obtain ⟨q1, q2, q3, q4, text⟩ := N.body
  obtain ⟨sc1, sc2, sc3⟩ := N.sc
  refine Att.call_fn (binds := [(("self" : Str), .ref x), (fld, v)]) X lim here code room (BindsTo.of_eq (N.bind kV doc pm an cdv ct _ _)) (N.kinds _ _) (fun s₁ IC => ?_) sc3 sc2 sc1
  obtain ⟨h₁, tk₁, rfl⟩ := IC.toInCall.same
  have k : ∀ b o, s.heap.get? b = some o → h₁.get? b = some o := IC.toInCall.keep
  have names := IC.toInCall.ns
  have X₁ : K.In h₁ := X.keeps k
  have hx₁ := k _ _ hx
  rw [text]
  refine wpAny_execs_cons (plainObj_wpAny_Assign_Attribute ?_)
  refine er_local sc1 (N.kFld _ _ _) names (N.bFld _ _ _ _ _) N.nd (er_local sc1 (N.kSelf _ _ _) names (N.bSelf _ _ _ _ _) (by decide) ?_)
  refine PySem.W.set_plain X₁ (ox := HandSPX.excO C t0) (od := none) ⟨hx₁, rfl, rfl, trivial⟩ T.sa ?_
  refine er_store T X₁ hx₁ fun h₃ tk₃ dx k₃ dn dne hx₃ ns₃ => ?_
  have z : s.heap.objs.size < h₁.objs.size := names.lt
  exact wpAny_execs_nil (hq h₃ tk₃ dx (fun b o hb e => k₃ b o hb (k b o e)) (Nat.le_of_lt (Nat.lt_of_lt_of_le z dn)) dne hx₃ ns₃)
theorem er_made {s : Shared} {v : Value} {qual : Str} {st : Stmt} (T : ErC K mg nm fld C fI) (N : ErInit K qual fld st fI) (X : K.In s.heap) (lim : s.heap.NoLimit) (room : A.depth + 1 < recursionLimit)
    (hq : ∀ h' tk e dx, ErMade s.heap h' e C dx fld v → R (.ok (.ret (.ref e))) { s with heap := h', toks := tk }) : codeAny (model prog w) A (.call (.ref C) ⟨[v], []⟩) R s := by
  obtain ⟨hp, g, dr, tk, os⟩ := s
  obtain ⟨cn, Nn, qn, bs, bm, hdct, sn, sub, ab, col, dd, k0, k1, k2, k3, k5, hC, hbm⟩ := PySem.W.excInit_of X T.ini
  have k : ∀ b o, hp.get? b = some o → ((hp.push (PySem.W.kdv_tup [v])).push (HandSPX.excO C hp.objs.size)).get? b = some o := fun b o e => Heap.get?_push_of_some _ (Heap.get?_push_of_some _ e)
  have at_e : ((hp.push (PySem.W.kdv_tup [v])).push (HandSPX.excO C hp.objs.size)).get? (hp.objs.size + 1) = some (HandSPX.excO C hp.objs.size) := by heap_get
  refine HandSPX.call_own F.excBase_Exception hbm hC (PySem.W.looks_findIn X T.iC) (fun self => PySem.W.bind_fn X self T.tC) (by show 1 ≤ sizeLine; decide) ?_
  refine er_init (s := ⟨(hp.push (PySem.W.kdv_tup [v])).push (HandSPX.excO C hp.objs.size), g, dr, tk, os⟩) T N (X.keeps k) (lim.keeps k) at_e (by show A.depth + 1 < recursionLimit; exact room) fun h' tk' dx kept dn dne hx ns => ?_
  have z : hp.objs.size + 1 + 1 ≤ dx := by
    have q := dn
    rw [Heap.size_push, Heap.size_push] at q
    exact q
  exact ⟨rfl, hq h' tk' (hp.objs.size + 1) dx ⟨fun b o e => kept b o (Nat.ne_of_lt (Nat.lt_succ_of_lt (Heap.lt_size e))) (k b o e), Nat.le_succ _, ⟨_, _, hx, rfl, rfl, rfl, rfl⟩, Nat.le_trans (Nat.le_trans (Nat.le_succ _) (Nat.le_succ _)) z, dne, ns⟩⟩
end

/-! ### raising it -/
section
variable {B : Bs} {X : Cx} {C fI : Addr} {nm fld qual : Str} {st : Stmt} {a : Expr} {fa : GE} {p pos : Pos} {k : Nat} {R : Er → Prop} {E : XK}
theorem rel_one {v : V} {u : Value} (r : RelV v u) (f : Str) : RelO (List.lookup f [(fld, v)]) (if f = fld then some u else none) := by
  by_cases e : f = fld
  · subst e
    rw [if_pos rfl]
    simpa [List.lookup] using (show RelO (some v) (some u) from r)
  · rw [if_neg e]
    have b : (f == fld) = false := by simpa using e
    simp only [List.lookup, b]
    trivial
/-- nm(a) makes an error of the class at C, whose dict holds a's value -/
theorem pmk_er {t : TE} (T : ErC X.K X.mg nm fld C fI) (N : ErInit X.K qual fld st fI) (hr : Room k X.A) (ha : PE X a t) (hg : Gl X nm) (ndb : (nm == ("__debug__" : Str)) = false) (he : starEach (a :: []) X.env = (false, eval a X.env) :: starEach [] X.env := by rfl) (hpl : (backTo pos (starEach [] X.env)).any (·.1) = false := by rfl) :
    PMk X (.Call (.Name nm p) [a] [] pos) (fun σ H Q => t σ H fun v G => ∀ dx, G dx = none → Q (.ref C) (some dx) (upd G dx (.xd [(fld, v)]))) := fun pins s σ H Q I h => by
  refine wpAny_Call_Name_kw (ld_glob I hg T.gC (PySem.W.callWith_K (h₀ := X.base) I.ok.mod.kin T.kC (thn ((pa_cons ha pa_nil he).run pos pins s σ H (fun vs G => match vs with | [v] => ∀ dx, G dx = none → Q (.ref C) (some dx) (upd G dx (.xd [(fld, v)])) | _ => False) I h) fun us z ⟨vs, G, J, vals, q⟩ => ⟨J.kIn, ?_⟩) he hpl) ndb)
  match vs, vals, q with
  | [v], .cons (b := u) rv .nil, q =>
    have lim := J.nolimit
    obtain ⟨hp, g, dr, tk, os⟩ := z
    refine wpAny_call (er_made T N J.kIn lim (by have := hr.dp; omega) fun h' tk' e dx M => ?_)
    show MkP X pins σ Q (.ref e) ⟨h', g, dr, tk', os⟩
    obtain ⟨oe, fv, at_e, cls, dct, fields, ctx⟩ := M.obj
    obtain ⟨G', g1, g2⟩ := restrict h' fun b => decide (b ≠ e)
    have off : ∀ b, b ≠ e → G'.get? b = h'.get? b := fun b hb => g1 b (decide_eq_true hb)
    have gone : G'.get? e = none := g2 e (by simp)
    have old : ∀ b o, hp.get? b = some o → G'.get? b = some o := fun b o q => (off b (Nat.ne_of_lt (Nat.lt_of_lt_of_le (Heap.lt_size q) M.new))).trans (M.keep b o q)
    have ok : ObjOk X.prog X.w (upd G dx (.xd [(fld, v)])) G' dx (.xd [(fld, v)]) := ⟨_, M.ns.at (fun o q => (off dx M.ne).trans q), fun f => rel_one rv f⟩
    have J2 : Inv X pins σ (upd G dx (.xd [(fld, v)])) ⟨G', g, dr, tk', os⟩ := J.laid (t' := tk') old M.big ok
    refine ⟨e, oe, fv, ⟨G', g, dr, tk', os⟩, _, .ref C, some dx, rfl, J2, fun b o q => ?_, gone, at_e, ⟨cls, dct⟩, fields, ctx, ?_, rfl, J.bare, raises_own T.exC T.tyC, q dx (J.hok.fresh M.big)⟩
    · have hb : b ≠ e := fun z => by
        have q' : G'.get? b = some o := q
        rw [z, gone] at q'
        cases q'
      exact (off b hb).symm.trans q
    · rw [upd_ne (Ne.symm M.ne)]
      exact J.hok.fresh M.new
/-- raise nm(a) -/
@[simp] def gRaise (nm fld : Str) (fa : GE) (R : Er → Prop) (_ : Ed) (σ : List SV) : Prop := fa σ fun d => R ⟨nm, [(fld, d)]⟩
theorem sd_raise {pos2 : Pos} (hc : X.calm = true) (T : ErC X.K X.mg nm fld C fI) (N : ErInit X.K qual fld st fI) (hr : Room k X.A) (tk : Takes X (fun c o _ H => E c o H)) (hE : FinE B.W X.kn B.F B.H R E) (ha : ED B X a fa) (hg : Gl X nm := by rfl) (ndb : (nm == ("__debug__" : Str)) = false := by decide)
    (he : starEach (a :: []) X.env = (false, eval a X.env) :: starEach [] X.env := by rfl) (hpl : (backTo pos (starEach [] X.env)).any (·.1) = false := by rfl) : SD B X (.Raise (some (.Call (.Name nm p) [a] [] pos)) none pos2) (gRaise nm fld fa R) :=
  ⟨ps_imp (ps_raise hc tk (pmk_er T N hr ha.run hg ndb he hpl)) fun Dn s H ⟨σ, F, Ed, Rl, q, kk⟩ => ⟨σ, F, _, Rl, q, fun d qd F1 H1 v g1 d1 r1 dx hdx =>
    hE _ qd F1 _ (.ref C) (some dx) ((Rl.base.trans g1).trans (Grow.laid g1.fh hdx)) (d1.laid hdx) ⟨T.gC, fun _ => ⟨dx, [(fld, v)], rfl, upd_same, .cons r1 .nil⟩⟩⟩⟩
end
end ND

/-! ND13: try with several except clauses, named or not -/
namespace ND
open PySem PySem.Spec L2
open PyProof.Rows (envOfC)

/-- an exception that has landed at a, in the state s, to be handled -/
structure Air (X : Cx) (pins : List (Addr × Obj)) (a : Addr) (cls : Value) (d : Option Addr) (σ : L2.St) (H : Hp) (s : Shared) : Prop where
  fly : ∃ G, HandSPX.FlyingZ G (X.env :: X.outer) a (Zc cls d) s.heap ∧ (∀ h, G.StaysIn h → s.heap.UpToSlots h → Inv X pins σ H { s with heap := h }) ∧
    ∀ h (W : WX), HandSPX.HeldZ G (X.env :: X.outer) a (Zc cls d) X.env.locals h → s.heap.UpToSlots h → W cls d σ H → XE X W (.ref a) { s with heap := h }
  na : H a = none
  nL : a ≠ X.env.locals
  nF : a ∉ X.fs
section
variable {X : Cx} {pins : List (Addr × Obj)} {a : Addr} {cls : Value} {d : Option Addr} {σ : L2.St} {H : Hp} {s : Shared}
theorem Air.inv (q : Air X pins a cls d σ H s) : Inv X pins σ H s := by
  obtain ⟨G, fl, inv, _⟩ := q.fly
  exact inv s.heap fl.1 (Heap.UpToSlots.refl _)
theorem Air.again (q : Air X pins a cls d σ H s) {M : Model} {A : Around} {E : Value → Shared → Prop} {P : Unit → Shared → Prop} (h : ∀ t, Air X pins a cls d σ H t → P () t) : wpAny M A (setFlight (.ref a) none) P E s := by
  obtain ⟨G, fl, inv, out⟩ := q.fly
  exact HandSPX.lands_againZ fl fun h' fl' up => h _ ⟨⟨G, fl', fun h2 st up2 => inv h2 st (up.trans up2), fun h2 W hh up2 => out h2 W hh (up.trans up2)⟩, q.na, q.nL, q.nF⟩
theorem Air.suite (q : Air X pins a cls d σ H s) : ∃ oe, s.heap.get? a = some oe ∧ Zc cls d oe ∧ (∃ vs, oe.data = .fields vs) ∧ Inv (X.suite a ((a, oe) :: (X.pn ++ pins))) [] σ H s := by
  obtain ⟨G, fl, _, _⟩ := q.fly
  obtain ⟨oe, vs, at_a, zc, fields⟩ := fl.there
  exact ⟨oe, at_a, zc, ⟨vs, fields⟩, q.inv.suite at_a fields q.na q.nL q.nF⟩
/-- what the body lets out lands -/
theorem air_of {xe : Value → Shared → Prop} {W : WX} {u : Value} {P : Unit → Shared → Prop} {E : Value → Shared → Prop} (ok : X.Ok) (hs : X.stack = X.env :: X.outer) (hf : X.env.frame = some X.env.locals) (x : XE (X.tr (X.pn ++ pins) xe) W u s)
    (h : ∀ a cls d σ H t, u = .ref a → Air X pins a cls d σ H t → W cls d σ H → P () t) : wpAny (model X.prog X.w) X.A (noteFrame u X.env) (fun _ s₂ => wpAny (model X.prog X.w) X.A (setFlight u none) P E s₂) E s := by
  obtain ⟨a, G, sI, _, σ, H, cls, d, rfl, J', nb, up, sky, na, os, ag, w⟩ := x
  have J : Inv X pins σ H sI := J'.ofTry ok
  have frames : X.A.frames = some (X.env :: X.outer) := by rw [ok.frames, hs]
  refine Sky.land Zc.steady frames hf (by rw [← hs]; exact sky) fun h3 fl up3 => h a cls d σ H _ rfl ⟨⟨G, fl, fun h2 st up2 => J.landed nb st ((up.trans up3).trans up2) os ag, fun h2 V hh up2 v => ?_⟩, na, ?_, ?_⟩ w
  · exact ⟨a, G, sI, pins, σ, H, cls, d, rfl, J, nb, (up.trans up3).trans up2, .inr (.inr (by rw [hs]; exact hh)), na, os, ag, v⟩
  all_goals
    obtain ⟨oe, vs, at_a, _, fields⟩ := fl.there
    have out : a ∉ frs (X.env :: X.outer) := fun hm => by
      obtain ⟨_, o', e', no⟩ := fl.2.2.1.mem hm
      rw [at_a] at e'
      cases e'
      exact no _ fields
  · exact fun z => out (List.mem_filterMap.mpr ⟨X.env, List.mem_cons_self, by rw [hf, z]⟩)
  · intro hm
    obtain ⟨e, he, q⟩ := List.mem_filterMap.mp hm
    exact out (List.mem_filterMap.mpr ⟨e, List.mem_cons_of_mem _ he, q⟩)
/-- no clause is left -/
theorem Air.pass {Wout : WX} {P : Flow → Shared → Prop} (q : Air X pins a cls d σ H s) (hf : X.env.frame = some X.env.locals) (tk : Takes X Wout) (w : Wout cls d σ H) : wpAny (model X.prog X.w) X.A (handleBy (.ref a) X.env []) P X.xe s := by
  obtain ⟨G, fl, _, out⟩ := q.fly
  refine wpAny_handleBy_nil ?_
  obtain ⟨_, _, _, oe, vs, T, oT, ts, at_a, zc, fields, trace, _⟩ := id fl
  unfold PySem.passOn
  refine wpAny_bind (wpAny_field at_a fields trace ?_)
  rw [if_neg (show ¬ ((Value.ref T == Value.none) = true) from by simp)]
  have fin : wpAny (model X.prog X.w) X.A (setFlight (.ref a) X.env.frame) (fun _ s4 => wpAny (model X.prog X.w) X.A (throw (.ref a) : Sem Flow) P X.xe s4) X.xe s := by
    rw [hf]
    exact HandSPX.setFlight_upZ fl fun h4 hh up => wpAny_throw (tk _ _ (out h4 Wout hh up w))
  first
    | exact wpAny_bind (wpAny_pure (wpAny_bind fin))
    | exact wpAny_bind fin
end

/-- an except clause: its class, the slot of its name, what its suite asks -/
structure Hdl where
  c : Value
  slot : Option Nat
  ts : Addr → Value → Option Addr → TS
def goneD (D : Ends) (i : Nat) : Ends := { nx := fun σ H => D.nx (σ.set i none) H, rt := D.rt, bk := fun σ H => D.bk (σ.set i none) H, ct := fun σ H => D.ct (σ.set i none) H }
def Hdl.take (h : Hdl) (D : Ends) (a : Addr) (cls : Value) (d : Option Addr) (σ : L2.St) (H : Hp) : Prop := match h.slot with
  | none => h.ts a cls d D σ H
  | some i => h.ts a cls d (goneD D i) (σ.set i (some (.ref a))) H
def wH (K : PySem.W.Frag) (Wout : WX) (D : Ends) : List Hdl → WX
  | [] => Wout
  | h :: r => fun cls d σ H => ∃ b, PySem.W.exmOne K cls h.c = some b ∧ (b = true → ∀ a, H a = none → h.take D a cls d σ H) ∧ (b = false → wH K Wout D r cls d σ H)
inductive HdlsOk (X : Cx) : List ExceptHandler → List Hdl → Prop
  | nil : HdlsOk X [] []
  | plain {x : Str} {c : Value} {ts : Addr → Value → Option Addr → TS} {b₀ : Stmt} {suite : List Stmt} {np pos' : Pos} {hs : List ExceptHandler} {l : List Hdl} (hc : Names X x c)
      (body : ∀ (a : Addr) (oe : Obj) (cls : Value) (d : Option Addr) (pn : List (Addr × Obj)), Zc cls d oe → (∃ vs, oe.data = .fields vs) → PSs (X.suite a ((a, oe) :: pn)) (b₀ :: suite) (ts a cls d)) (r : HdlsOk X hs l) :
      HdlsOk X (.ExceptHandler (some (.Name x np)) none (b₀ :: suite) pos' :: hs) (⟨c, none, ts⟩ :: l)
  | named {x n : Str} {i : Nat} {c : Value} {ts : Addr → Value → Option Addr → TS} {b₀ : Stmt} {suite : List Stmt} {np pos' : Pos} {hs : List ExceptHandler} {l : List Hdl} (hc : Names X x c) (hi : X.N[i]? = some n) (hl : X.env.kindOf n = some .local)
      (body : ∀ (a : Addr) (oe : Obj) (cls : Value) (d : Option Addr) (pn : List (Addr × Obj)), Zc cls d oe → (∃ vs, oe.data = .fields vs) → PSs (X.suite a ((a, oe) :: pn)) (b₀ :: suite) (ts a cls d)) (r : HdlsOk X hs l) :
      HdlsOk X (.ExceptHandler (some (.Name x np)) (some n) (b₀ :: suite) pos' :: hs) (⟨c, some i, ts⟩ :: l)
section
variable {X : Cx} {pins : List (Addr × Obj)} {a : Addr} {cls : Value} {d : Option Addr} {σ : L2.St} {H : Hp} {s : Shared} {D : Ends} {Wout : WX}
/-- the test of a clause -/
theorem Air.test {x : Str} {c : Value} {np : Pos} {b : Bool} {P : Bool → Shared → Prop} {E E' : Value → Shared → Prop} (q : Air X pins a cls d σ H s) (hc : Names X x c) (hb : PySem.W.exmOne X.K cls c = some b) (h : P b s) :
    wpAny (model X.prog X.w) (X.A.mark (some (.ref a))) (eval (.Name x np) X.env) (fun c s₁ => wpAny (model X.prog X.w) (X.A.mark (some (.ref a))) (excMatches (.ref a) c) P E s₁) E' s := by
  obtain ⟨oe, at_a, zc, _, S⟩ := q.suite
  have LT : PySem.W.Looks (model X.prog X.w) s.heap (typeOf (.ref a)) cls := fun A Q E s k q => wpAny_typeOf_ref (k _ _ at_a) (by rw [zc.1]; exact q)
  have LM := PySem.W.exm_one (M := model X.prog X.w) q.inv.kIn LT hb
  obtain ⟨glob, ndb, isOwn | ⟨no, isB, nn⟩⟩ := hc
  · exact ld_glob (X := X.suite a ((a, oe) :: (X.pn ++ pins))) S glob isOwn (LM.here h) ndb
  · exact ld_blt (X := X.suite a ((a, oe) :: (X.pn ++ pins))) S glob no isB (LM.here h) nn ndb
theorem Air.by {hs : List ExceptHandler} {l : List Hdl} (hN : X.N.Nodup) (hf : X.env.frame = some X.env.locals) (tk : Takes X Wout) (q : Air X pins a cls d σ H s) (ok : HdlsOk X hs l) (w : wH X.K Wout D l cls d σ H) : wpAny (model X.prog X.w) X.A (handleBy (.ref a) X.env hs) (SP X pins D) X.xe s := by
  induction ok with
  | nil => exact q.pass hf tk w
  | plain hc body r ih =>
    obtain ⟨b, hb, yes, no⟩ := w
    refine wpAny_handleBy_cons (codeAny_handlers_test (q.test hc hb ?_)) (by intro z; cases z)
    cases b with
    | false => exact ih (no rfl)
    | true =>
      refine codeAny_handlers_suite (q.again fun t qt => ?_)
      obtain ⟨oe, at_a, zc, fields, S⟩ := qt.suite
      refine wpAny_mono ((body a oe cls d (X.pn ++ pins) zc fields).run [] t σ H _ S (yes rfl a q.na)) (fun f s6 h => ?_) fun _ _ z => z.elim
      cases f <;> first
        | (obtain ⟨v, _, _, S6, r6, q6⟩ := h; exact ⟨_, _, _, S6.unsuite q.inv.ok, r6, q6⟩)
        | (obtain ⟨_, _, S6, q6⟩ := h; exact ⟨_, _, S6.unsuite q.inv.ok, q6⟩)
  | @named x n i c ts b₀ suite np pos' hs l hc hi hl body r ih =>
    obtain ⟨b, hb, yes, no⟩ := w
    refine wpAny_handleBy_cons (codeAny_handlers_test (q.test hc hb ?_)) (by intro z; cases z)
    cases b with
    | false => exact ih (no rfl)
    | true =>
      refine codeAny_handlers_suite_as (q.again fun t qt => ?_)
      obtain ⟨oe, at_a, zc, fields, S⟩ := qt.suite
      refine store_ok (X := X.suite a ((a, oe) :: (X.pn ++ pins))) (v := .ref a) S hN hi (.inl hl) rfl (fun s5 S5 => ?_) (.inr hl)
      refine wpAny_mono ((body a oe cls d (X.pn ++ pins) zc fields).run [] s5 _ H _ S5 (yes rfl a q.na)) (fun f s6 h => ?_) fun _ _ z => z.elim
      have fin : ∀ {σ6 : L2.St} {H6 : Hp} {P : Shared → Prop}, Inv (X.suite a ((a, oe) :: (X.pn ++ pins))) [] σ6 H6 s6 → (∀ s7, Inv X pins (σ6.set i none) H6 s7 → P s7) → wpAny (model X.prog X.w) X.A (do bindName X.env n .none; unbindBehindTheSuite X.env n pos') (fun _ s7 => P s7) X.xe s6 :=
        fun {σ6 H6 P} S6 hp => gone_ok (S6.unsuite q.inv.ok) hN hi hl hp
      cases f <;> first
        | (obtain ⟨v, _, _, S6, r6, q6⟩ := h; exact fin S6 fun s7 J7 => ⟨_, _, _, J7, r6, q6⟩)
        | (obtain ⟨_, _, S6, q6⟩ := h; exact fin S6 fun s7 J7 => ⟨_, _, J7, q6⟩)
theorem ps_try_h {body : List Stmt} {h₀ : ExceptHandler} {hs : List ExceptHandler} {l : List Hdl} {tb : WX → TS} {pos : Pos} (hst : X.stack = X.env :: X.outer) (hf : X.env.frame = some X.env.locals) (hN : X.N.Nodup) (tk : Takes X Wout)
    (hb : ∀ (W : WX) (pn : List (Addr × Obj)) (xe : Value → Shared → Prop), Takes (X.tr pn xe) W → PassesOwn (model X.prog X.w) X.A X.env xe → PSs (X.tr pn xe) body (tb W)) (hh : HdlsOk X (h₀ :: hs) l) :
    PS X (.Try body (h₀ :: hs) [] [] pos) (fun D σ H => tb (wH X.K Wout D l) D σ H) :=
  ⟨fun pins s σ H D I h => by
    refine wpAny_Try_except (wpAny_mono ((hb (wH X.K Wout D l) (X.pn ++ pins) _ (fun u s' x => ?_) PassesOwn.looking).run [] s σ H D (I.toTry _) h) (fun f s1 r => ?_) fun _ _ e => e)
    · exact air_of I.ok hst hf x fun a cls d σ' H' t e q w => by
        subst e
        exact q.by hN hf tk hh w
    · cases f with
      | next =>
        obtain ⟨σ', H', J, q⟩ := r
        exact wpAny_execs_nil ⟨σ', H', J.ofTry I.ok, q⟩
      | brk =>
        obtain ⟨σ', H', J, q⟩ := r
        exact ⟨σ', H', J.ofTry I.ok, q⟩
      | cont =>
        obtain ⟨σ', H', J, q⟩ := r
        exact ⟨σ', H', J.ofTry I.ok, q⟩
      | ret u =>
        obtain ⟨v, σ', H', J, rv, q⟩ := r
        exact ⟨v, σ', H', J.ofTry I.ok, rv, q⟩⟩
end
end ND

/-! ND14: try by data (clauses that end with return) -/
namespace ND
open PySem PySem.Spec L2
open PyProof.Rows (envOfC)

theorem Rel.rebase {B : Bs} {F0 H0 : Hp} {K : Kn} {σ : List SV} {s : L2.St} {F H : Hp} (g : Grow B.W B.F B.H F0 H0) (b : DeckIn B.W B.F B.H) (R : Rel ⟨B.W, F0, H0⟩ K σ s F H) : Rel B K σ s F H := by
  obtain ⟨own, O, q⟩ := R.slots
  exact ⟨g.trans R.base, b, R.deck, R.len, own, ⟨O.inj, fun i a e => ⟨g.back (O.free i a e).1, (O.free i a e).2⟩⟩, q⟩
theorem rel_no {W : WD} {K : Kn} {F H : Hp} (e : Same F H) (dk : DeckIn W F H) (s : L2.St) : Rel ⟨W, F, H⟩ K (List.replicate s.length .no) s F H :=
  ⟨Grow.refl e, dk, dk, by simp, fun _ => none, ⟨fun _ _ _ z => (nomatch z), fun _ _ z => (nomatch z)⟩, fun i x v e1 _ => by
    have := List.eq_of_mem_replicate (List.mem_of_getElem? e1)
    subst this
    exact True.intro⟩
/-- the error er, of the class cls, its dict d, as it stands where a clause begins -/
structure ErAt (K : Kn) (W : WD) (F H : Hp) (cls : Value) (d : Option Addr) (er : Er) : Prop where
  ex : Same F H
  dk : DeckIn W F H
  rep : RepEr K F H cls d er
/-- a clause by data: its class's name, the slot of its name, its suite's reading -/
structure Cls3 where
  nm : Str
  slot : Option Nat
  g : Er → Addr → GS
def clauseStart (n : Nat) (a : Addr) : Option Nat → List SV
  | none => List.replicate n .no
  | some i => (List.replicate n .no).set i (.d (.opq (.ref a)))
/-- what is wanted of an error: by the first clause that takes it, else out -/
def hdG (M : Str → Str → Option Bool) (n : Nat) (out : Er → Prop) (Q : D → Prop) : List Cls3 → Er → Prop
  | [], er => out er
  | c :: r, er => ∃ b, M er.nm c.nm = some b ∧ if b = true then ∀ a, c.g er a { nx := fun _ => False, rt := Q, bk := fun _ => False, ct := fun _ => False } (clauseStart n a c.slot) else hdG M n out Q r er
def tsH (B : Bs) (K : Kn) (g : Er → Addr → GS) (a : Addr) (cls : Value) (d : Option Addr) : TS := fun Dn s H => ∃ F0 H0 er, ErAt K B.W F0 H0 cls d er ∧ LS ⟨B.W, F0, H0⟩ K (g er a) Dn s H
inductive ClausesOk (B : Bs) (X : Cx) : List ExceptHandler → List Cls3 → List Hdl → Prop
  | nil : ClausesOk B X [] [] []
  | plain {x : Str} {cv : Value} {g : Er → Addr → GS} {b₀ : Stmt} {suite : List Stmt} {np pos' : Pos} {hs : List ExceptHandler} {l : List Cls3} {l' : List Hdl} (hg : Gl X x) (nd : (x == ("__debug__" : Str)) = false) (hm : X.mg x = some cv)
      (body : ∀ (a : Addr) (oe : Obj) (cls : Value) (d : Option Addr) (pn : List (Addr × Obj)) (F0 H0 : Hp) (er : Er), Zc cls d oe → (∃ vs, oe.data = .fields vs) → ErAt X.kn B.W F0 H0 cls d er → SDs ⟨B.W, F0, H0⟩ (X.suite a ((a, oe) :: pn)) (b₀ :: suite) (g er a)) (r : ClausesOk B X hs l l') :
      ClausesOk B X (.ExceptHandler (some (.Name x np)) none (b₀ :: suite) pos' :: hs) (⟨x, none, g⟩ :: l) (⟨cv, none, fun a cls d => tsH B X.kn g a cls d⟩ :: l')
  | named {x n : Str} {i : Nat} {cv : Value} {g : Er → Addr → GS} {b₀ : Stmt} {suite : List Stmt} {np pos' : Pos} {hs : List ExceptHandler} {l : List Cls3} {l' : List Hdl} (hg : Gl X x) (nd : (x == ("__debug__" : Str)) = false) (hm : X.mg x = some cv) (hi : X.N[i]? = some n) (hl : X.env.kindOf n = some .local)
      (body : ∀ (a : Addr) (oe : Obj) (cls : Value) (d : Option Addr) (pn : List (Addr × Obj)) (F0 H0 : Hp) (er : Er), Zc cls d oe → (∃ vs, oe.data = .fields vs) → ErAt X.kn B.W F0 H0 cls d er → SDs ⟨B.W, F0, H0⟩ (X.suite a ((a, oe) :: pn)) (b₀ :: suite) (g er a)) (r : ClausesOk B X hs l l') :
      ClausesOk B X (.ExceptHandler (some (.Name x np)) (some n) (b₀ :: suite) pos' :: hs) (⟨x, some i, g⟩ :: l) (⟨cv, some i, fun a cls d => tsH B X.kn g a cls d⟩ :: l')
/-- the classes' relations -/
def ClsTab (K : Kn) (M : Str → Str → Option Bool) : Prop := ∀ x y b u v, M x y = some b → K.mg x = some u → K.mg y = some v → PySem.W.exmOne K.K u v = some b
section
variable {B : Bs} {X : Cx} {M : Str → Str → Option Bool}
theorem pss_er {X' : Cx} {sts : List Stmt} {g : Er → Addr → GS} {a : Addr} {cls : Value} {d : Option Addr} {K : Kn} (hk : X'.kn = K) (h : ∀ F0 H0 er, ErAt K B.W F0 H0 cls d er → SDs ⟨B.W, F0, H0⟩ X' sts (g er a)) : PSs X' sts (tsH B K g a cls d) :=
  ⟨fun pins s σ H Dn I ⟨F0, H0, er, at_, q⟩ => (h F0 H0 er at_).run.run pins s σ H Dn I (by rw [hk]; exact q)⟩
theorem ClausesOk.hdls {hs : List ExceptHandler} {l : List Cls3} {l' : List Hdl} (ok : ClausesOk B X hs l l') : HdlsOk X hs l' := by
  induction ok with
  | nil => exact .nil
  | plain hg nd hm body r ih => exact .plain ⟨hg, nd, .inl hm⟩ (fun a oe cls d pn zc fs => pss_er rfl fun F0 H0 er z => body a oe cls d pn F0 H0 er zc fs z) ih
  | named hg nd hm hi hl body r ih => exact .named ⟨hg, nd, .inl hm⟩ hi hl (fun a oe cls d pn zc fs => pss_er rfl fun F0 H0 er z => body a oe cls d pn F0 H0 er zc fs z) ih
theorem Same.trans' {A B C : Hp} (a : Same A B) (b : Same B C) : Same A C := a.trans b
/-- a clause takes what it is wanted to take -/
theorem ClausesOk.takes {hs : List ExceptHandler} {l : List Cls3} {l' : List Hdl} (ok : ClausesOk B X hs l l') {F F' H' : Hp} {Ed : Ed} {Dn : Ends} {Wout : WX} {out : Er → Prop} {cls : Value} {d : Option Addr} {er : Er} {s : L2.St} (hM : ClsTab X.kn M)
    (k : EdOk B X.kn F Ed Dn) (g : Grow B.W B.F B.H F' H') (dk : DeckIn B.W F' H') (rp : RepEr X.kn F' H' cls d er) (hl : s.length = X.N.length)
    (ho : out er → Wout cls d s H') (w : hdG M X.N.length out Ed.rt l er) : wH X.K Wout Dn l' cls d s H' := by
  have ends : ∀ i : Option Nat, EdOk ⟨B.W, F', H'⟩ X.kn F' { nx := fun _ => False, rt := Ed.rt, bk := fun _ => False, ct := fun _ => False } (match i with | none => Dn | some i => goneD Dn i) := fun i =>
    ⟨fun _ _ _ _ _ _ z => z.elim, fun dd v F2 H2 g2 dk2 r2 q => by
      have := k.rt dd v F2 H2 (g.trans g2) dk2 r2 q
      cases i <;> exact this, fun _ _ _ _ _ _ z => z.elim, fun _ _ _ _ _ _ z => z.elim⟩
  induction ok with
  | nil => exact ho w
  | @plain x cv gg b₀ suite np pos' hs l l' hg nd hm body r ih =>
    obtain ⟨b, hb, q⟩ := w
    refine ⟨b, hM _ _ _ _ _ hb rp.1 hm, fun e a na => ?_, fun e => ?_⟩
    · subst e
      have q1 := q a
      have R := rel_no (W := B.W) (K := X.kn) g.fh dk s
      rw [hl] at R
      exact ⟨F', H', er, ⟨g.fh, dk, rp⟩, _, F', _, R, q1, ends none⟩
    · subst e
      exact ih q
  | @named x n i cv gg b₀ suite np pos' hs l l' hg nd hm hi hll body r ih =>
    obtain ⟨b, hb, q⟩ := w
    refine ⟨b, hM _ _ _ _ _ hb rp.1 hm, fun e a na => ?_, fun e => ?_⟩
    · subst e
      have q1 := q a
      have R := (rel_no (W := B.W) (K := X.kn) g.fh dk s).set (i := i) (v := .ref a) (x := .opq (.ref a)) (.opq _)
      rw [hl] at R
      exact ⟨F', H', er, ⟨g.fh, dk, rp⟩, _, F', _, R, q1, ends (some i)⟩
    · subst e
      exact ih q
/-- try: body, except ..: clauses, each of which returns -/
@[simp] def gTry (M : Str → Str → Option Bool) (n : Nat) (R : Er → Prop) (tb : (Er → Prop) → GS) (l : List Cls3) (E : Ed) (σ : List SV) : Prop := tb (hdG M n R E.rt l) E σ
theorem sd_try {body : List Stmt} {h₀ : ExceptHandler} {hs : List ExceptHandler} {l : List Cls3} {l' : List Hdl} {tb : (Er → Prop) → GS} {pos : Pos} {R : Er → Prop} {E : XK} (hst : X.stack = X.env :: X.outer) (hf : X.env.frame = some X.env.locals) (hN : X.N.Nodup)
    (tk : Takes X (fun c o _ H => E c o H)) (hE : FinE B.W X.kn B.F B.H R E) (hM : ClsTab X.kn M)
    (hb : ∀ (pn : List (Addr × Obj)) (xe : Value → Shared → Prop) (E' : XK) (R' : Er → Prop), Passes (L2.CX X.prog X.w) (X.tr pn xe) E' → FinE B.W X.kn B.F B.H R' E' → PassesOwn (model X.prog X.w) X.A X.env xe → SDs B (X.tr pn xe) body (tb R'))
    (hh : ClausesOk B X (h₀ :: hs) l l') : SD B X (.Try body (h₀ :: hs) [] [] pos) (gTry M X.N.length R tb l) :=
  ⟨ps_imp (ps_try_h (Wout := fun c o _ H => E c o H) (tb := fun W Dn s H => ∃ R', FinE B.W X.kn B.F B.H R' (fun c o H => ∀ s : L2.St, s.length = X.N.length → W c o s H) ∧ LS B X.kn (tb R') Dn s H) hst hf hN tk
      (fun W pn xe tk' po => ⟨fun pins s σ H Dn I ⟨R', fin, q⟩ => (hb pn xe _ R' (fun pins σ H s e s' I c => tk' e s' (XE.of_call I (fun cls d H' h => h σ I.len) c)) fin po).run.run pins s σ H Dn I q⟩) hh.hdls)
    fun Dn s H ⟨σ, F, Ed, Rl, q, k⟩ => ⟨hdG M X.N.length R Ed.rt l, fun er w F' H' c o g dk rp s' hl =>
      hh.takes hM k g dk rp hl (fun ro => hE er ro F' H' c o g dk rp) w, σ, F, Ed, Rl, q, k⟩⟩
end
/-! ### within a clause: the error's field -/
/-- what the written part says of a class whose errors' fields are read -/
structure ErGet (K : PySem.W.Frag) (C : Addr) (fld : Str) : Prop where
  ga : PySem.W.findIn K (.ref C) "__getattribute__" = some (some (.builtin "BaseException.__getattribute__"))
  gg : PySem.W.findIn K (.ref C) "__getattr__" = some none
  exC : PySem.W.subIn K (.ref C) (.type "BaseException") = some true
  hdC : PySem.W.hasDictIn K C = true
  noN : PySem.W.findIn K (.ref C) fld = some none
/-- the classes nm of which known is true may be asked for fld -/
def GetTab (K : Kn) (known : Str → Bool) (fld : Str) : Prop := ∀ nm, known nm = true → ∃ C, K.mg nm = some (.ref C) ∧ ErGet K.K C fld
def gErF (known : Str → Bool) (fld : Str) (i : Nat) (er : Er) (a : Addr) (σ : List SV) (Q : D → Prop) : Prop := σ[i]? = some (.d (.opq (.ref a))) ∧ known er.nm = true ∧ ∃ x, er.fs.lookup fld = some x ∧ Q x
theorem repFs_look {K : Kn} {F : Hp} {f : Str} {x : D} : ∀ {vs : List (Str × V)} {ds : List (Str × D)}, RepFs K F vs ds → ds.lookup f = some x → ∃ v, vs.lookup f = some v ∧ Rep K F v x
  | _, _, .nil, h => by simp at h
  | (k, v) :: vs, (_, d) :: ds, .cons r t, h => by
    rw [List.lookup_cons] at h ⊢
    cases e : f == k with
    | true =>
      rw [e] at h
      cases h
      exact ⟨v, rfl, r⟩
    | false =>
      rw [e] at h
      exact repFs_look t h
section
variable {X : Cx} {W : WD} {F0 H0 : Hp} {cls : Value} {d : Option Addr} {er : Er} {a : Addr} {oe : Obj} {pn : List (Addr × Obj)} {known : Str → Bool} {fld x : Str} {i : Nat} {pos p : Pos}
theorem ed_erF (at_ : ErAt X.kn W F0 H0 cls d er) (zc : Zc cls d oe) (fields : ∃ vs, oe.data = .fields vs) (G : GetTab X.kn known fld) (he : PE (X.suite a ((a, oe) :: pn)) (.Name x p) (tVar i)) (hb : attributeBase (.Name x p) fld X.env (eval (.Name x p) X.env) = eval (.Name x p) X.env := by rfl) :
    ED ⟨W, F0, H0⟩ (X.suite a ((a, oe) :: pn)) (.Attribute (.Name x p) fld pos) (gErF known fld i er a) :=
  ⟨⟨fun pins s σ H Q I ⟨σd, F, Qd, R, ⟨sl, kn, y, hy, q⟩, k⟩ => by
    obtain ⟨C, gC, T⟩ := G _ kn
    obtain ⟨eC, hf⟩ := at_.rep
    have ec : cls = .ref C := Option.some.inj (eC.symm.trans gC)
    subst ec
    have ne : er.fs ≠ [] := fun z => by
      rw [z] at hy
      cases hy
    obtain ⟨dx, vs, rfl, at_dx, rf⟩ := hf ne
    obtain ⟨v, hv, rv⟩ := repFs_look rf hy
    obtain ⟨w0, hs, rw0⟩ := R.dat sl
    cases rw0
    have notW : ¬ InW W dx := fun w => by
      obtain ⟨pp, e, o⟩ := w
      have dk := at_.dk _ e
      obtain ⟨ns, m, n, h1, h2, _⟩ := dk.st
      rcases o with o | o <;> subst o
      · rw [h1] at at_dx
        cases at_dx
      · rw [h2] at at_dx
        cases at_dx
    refine attr_of hb (thn (he.run pins s σ H (fun w G1 => w = .ref a ∧ G1 = H) I ⟨_, hs, rfl, rfl⟩) fun u s1 ⟨w, H1, I1, rx, ew, eH⟩ => ?_)
    subst ew eH
    obtain rfl : u = Value.ref a := rx
    have st : H1 dx = some (.xd vs) := R.base.hh dx _ at_dx notW
    obtain ⟨held, _⟩ := I1.pin (a, oe) (List.mem_append_left _ List.mem_cons_self)
    obtain ⟨fv, hd⟩ := fields
    obtain ⟨mA, hns, hr⟩ := (show ObjOk X.prog X.w H1 s1.heap dx (.xd vs) from I1.hok dx _ st)
    obtain ⟨od, ho, hl⟩ := lookIn_ns hns
    obtain ⟨u, hu, ru⟩ := RelO.some_of (v := v) (o := mA fld) (by rw [← hv]; exact hr fld)
    have J : PySem.W.InstAt s1.heap a oe C (some od) := ⟨held, zc.1, by unfold PySem.W.notCls; rw [hd] <;> rfl, by rw [zc.2]; exact ho⟩
    exact HandSPX.exc_get I1.kIn J T.ga T.gg T.exC (PySem.W.findObj_own T.hdC T.noN rfl (by rw [hl, hu])) (handed_of ru) ⟨v, H1, I1.tok _, ru, k _ q F H1 v (Grow.refl R.ex) R.deck (rv.mono R.base.ff)⟩⟩⟩
end
end ND

/-! ND15: isinstance of a caught error that has a dict -/
namespace ND
open PySem PySem.Spec PySem.W PySem.Calls PyProof.Rows
section
variable {prog : Program} {w : World} {A : Around} {E : Value → Shared → Prop} {K : Frag} {x D : Addr} {ox : Obj} {od : Option Obj}
theorem find_class (T : L2.ExcC K D) : findObj K D od "__class__" = some (.bind (.builtin "getset_descriptor.__get__") (.builtin "object.__class__")) := by
  obtain ⟨cd, hc, _⟩ := any_some T.hd
  unfold findObj
  rw [hc, Option.bind_some, T.ha, Option.bind_some]
  simp [T.hn, T.ht]
theorem ask_class {s : Shared} {Q : Option Value → Shared → Prop} (T : L2.ExcC K D) (X : K.In s.heap) (J : InstAt s.heap x ox D od) (done : Q (some (.ref D)) { s with toks := s.toks + 1 }) : wpAny (model prog w) A (getAttr? (.ref x) "__class__") Q E s := by
  obtain ⟨hp, gs, dr, tk, os⟩ := s
  have isD := J.type (M := model prog w)
  have own := looks_findIn (M := model prog w) X T.hg
  have hook := looks_findIn (M := model prog w) X T.hk
  have got := looks_find (M := model prog w) X J (find_class T)
  have over : Looks (model prog w) hp (isInstance (.ref x) (.type "BaseException")) true := isD.andThen (looks_subIn X T.hs)
  have differs : (Value.builtin "BaseException.__getattribute__" == Value.builtin "object.__getattribute__") = false := by decide +kernel
  unfold getAttr? getAttrBy? getAttrBy
  refine wpAny_bind (wpAny_mkText (wpAny_bind (wpAny_attempt (wpAny_holding (wpAny_bind (isD.at (wpAny_bind (own.at ?_))))))))
  show wpAny _ _ (if (onTheHeap (Value.ref D) && Value.builtin "BaseException.__getattribute__" == Value.builtin "object.__getattribute__") = true then _ else _) _ _ _
  rw [differs, Bool.and_false, if_neg Bool.false_ne_true]
  unfold getAttrByItsOwn hookBefore
  refine wpAny_bind ?_
  rw [if_pos (show onTheHeap (Value.ref D) = true from rfl)]
  refine hook.at (wpAny_bind (wpAny_attempt (wpAny_holding ?_)))
  unfold callGetattribute
  rw [if_neg (show ¬ (false && onTheHeap (Value.builtin "BaseException.__getattribute__")) = true from Bool.false_ne_true)]
  unfold boundAndCalled
  rw [F.excAttr_ValueError.ga.bind (.ref x)]
  refine wpAny_bind (wpAny_pure ?_)
  show wpAny _ _ (call (.builtin "BaseException.__getattribute__") [.ref x, .str "__class__" tk]) _ _ _
  refine wpAny_call (codeAny_call_builtin F.excAttr_ValueError.ga.plain F.entry_bexc_ga (@check_slot (model prog w) _ _ ⟨hp, gs, dr, tk + 1, os⟩ "BaseException.__getattribute__" "BaseException" "__getattribute__" (.ref x) [.str "__class__" tk] [] _ (by decide +kernel) (by decide +kernel) over (F.args_bexc_ga (.ref x) (.str "__class__" tk)) ?_))
  unfold Builtin.«object.__getattribute__»
  refine wpAny_bind (wpAny_of_eq (a := ((Value.ref x : Value), [Value.str "__class__" tk])) (by first | rfl | (simp only [slotArgs]; rfl)) (wpAny_bind (wpAny_pure (wpAny_bind (isD.at (wpAny_bind (got.at ?_)))))))
  show wpAny _ _ (holding [Value.builtin "object.__class__"] (call (.builtin "getset_descriptor.__get__") [.builtin "object.__class__", .ref x, .ref D]) >>= ret) _ _ _
  refine wpAny_bind (wpAny_holding (wpAny_call (class_get (s := ⟨hp, gs, dr, tk + 1, os⟩) (ox := ox) (od := od) X J T.hm (wpAny_pure ?_))))
  show wpAny _ _ (handedOut (.ref D)) _ _ _
  rw [handedOut_of (v := .ref D) rfl]
  first
    | exact wpAny_pure (wpAny_pure done)
    | exact wpAny_pure done
    | exact wpAny_pure (wpAny_bind (wpAny_pure (wpAny_pure done)))
theorem kit_err (T : L2.ExcC K D) : KitX K (.ref x) (.ref D) (fun h => InstAt h x ox D od) := by
  obtain ⟨cd, hc, _⟩ := any_some T.hd
  unfold clsIn at hc
  split at hc
  · rename_i c' d' cd' sl' ho
    refine ⟨fun _ _ _ J => J.type, ?_, ?_, fun X J k => ask_class T X J k⟩
    · intro _ h X _ A' Q' E' s' k q
      unfold isType loadHead
      exact wpAny_bind (wpAny_loadPart (k _ _ (X _ _ ho)) (wpAny_pure q))
    · intro h tp dd its n sl X htp
      refine Bool.eq_false_iff.mpr fun q => ?_
      have e : D = tp := Value.ref.inj (beq_iff_eq.mp q)
      subst e
      have z := (X _ _ ho).symm.trans htp
      cases z
  · cases hc
end
end ND

namespace ND
open PySem PySem.Spec L2
open PyProof.Rows (envOfC)
/-- the classes nm of which known is true may be asked whether they are of the class c -/
def IsiTab (K : Kn) (M : Str → Str → Option Bool) : Prop := ∀ x y b, M x y = some b → ∃ C D, K.mg x = some (.ref C) ∧ K.mg y = some (.ref D) ∧ ExcC K.K C ∧ PySem.W.kitOne K.K (.ref C) (.ref D) = some b
/-- isinstance(e, c), e the caught error -/
def gIsE (M : Str → Str → Option Bool) (c : Str) (i : Nat) (er : Er) (a : Addr) (σ : List SV) (Q : D → Prop) : Prop := σ[i]? = some (.d (.opq (.ref a))) ∧ er.fs ≠ [] ∧ ∃ b, M er.nm c = some b ∧ Q (.bl b)
section
variable {X : Cx} {W : WD} {F0 H0 : Hp} {cls : Value} {d : Option Addr} {er : Er} {a : Addr} {oe : Obj} {pn : List (Addr × Obj)} {M : Str → Str → Option Bool} {x c : Str} {i : Nat} {pos p p2 p3 : Pos}
theorem xd_notW {F H : Hp} {dx : Addr} {vs : List (Str × V)} (dk : DeckIn W F H) (e : H dx = some (.xd vs)) : ¬ InW W dx := fun ⟨pp, ep, o⟩ => by
  obtain ⟨ns, m, n, h1, h2, _⟩ := (dk _ ep).st
  rcases o with o | o <;> subst o
  · rw [h1] at e
    cases e
  · rw [h2] at e
    cases e
theorem ed_isE (at_ : ErAt X.kn W F0 H0 cls d er) (zc : Zc cls d oe) (fields : ∃ vs, oe.data = .fields vs) (T : IsiTab X.kn M) (hg : Gl X "isinstance") (hm : X.mg "isinstance" = none) (gc : Gl X c) (ndb : (c == ("__debug__" : Str)) = false)
    (he : PE (X.suite a ((a, oe) :: pn)) (.Name x p) (tVar i)) (hst : starEach [.Name x p, .Name c p2] X.env = (false, eval (.Name x p) X.env) :: starEach [.Name c p2] X.env := by rfl) (hst2 : starEach [.Name c p2] X.env = [(false, eval (.Name c p2) X.env)] := by rfl)
    (hpl : (backTo pos (starEach [.Name c p2] X.env)).any (·.1) = false := by rfl) :
    ED ⟨W, F0, H0⟩ (X.suite a ((a, oe) :: pn)) (.Call (.Name "isinstance" p3) [.Name x p, .Name c p2] [] pos) (gIsE M c i er a) :=
  ⟨⟨fun pins s σ H Q I ⟨σd, F, Qd, R, ⟨sl, ne, b, hb, q⟩, k⟩ => by
    obtain ⟨C, D, gC, gD, ok, kit⟩ := T _ _ _ hb
    obtain ⟨eC, hf⟩ := at_.rep
    have ec : cls = .ref C := Option.some.inj (eC.symm.trans gC)
    subst ec
    obtain ⟨dx, vs, rfl, at_dx, rf⟩ := hf ne
    obtain ⟨w0, hs, rw0⟩ := R.dat sl
    cases rw0
    have ans : CallR (X.suite a ((a, oe) :: pn)) (.builtin "isinstance") (fun us G P => us = [V.ref a, V.ref D] ∧ G dx = some (.xd vs) ∧ P (.bl b) G) := fun pins s σ G us ws P I vals ⟨eu, st, done⟩ => by
      subst eu
      cases vals with
      | cons r1 vals =>
        cases vals with
        | cons r2 vals =>
          cases vals
          cases r1
          cases r2
          obtain ⟨held, _⟩ := I.pin (a, oe) (List.mem_append_left _ List.mem_cons_self)
          obtain ⟨fv, hd⟩ := fields
          obtain ⟨mA, hns, hr⟩ := (show ObjOk X.prog X.w G s.heap dx (.xd vs) from I.hok dx _ st)
          obtain ⟨od, ho, _⟩ := lookIn_ns hns
          have J : PySem.W.InstAt s.heap a oe C (some od) := ⟨held, zc.1, by unfold PySem.W.notCls; rw [hd] <;> rfl, by rw [zc.2]; exact ho⟩
          exact PySem.W.kia_one (kit_err ok) I.kIn J kit (fun z => nomatch z) fun tk => ⟨.bl b, G, I.kept (t' := tk) fun _ _ z => z, rfl, done⟩
    have st : H dx = some (.xd vs) := R.base.hh dx _ at_dx (xd_notW at_.dk at_dx)
    have nameC : PE (X.suite a ((a, oe) :: pn)) (.Name c p2) (tC (.ref D)) := pe_glob gc gD rfl ndb
    exact (pe_callB ans hg hm nbIsi (pa_cons he (pa_cons nameC pa_nil hst2) hst) (by decide) (by decide) hst hpl).run pins s σ H Q I ⟨_, hs, rfl, st, k _ q F H _ (Grow.refl R.ex) R.deck (.bl b)⟩⟩⟩
end
end ND

/-! ND16: more built-in functions: sum, all, any, tuple, list, sorted, str -/
namespace ND
open PySem PySem.Spec L2
open PyProof.Rows (envOfC)
section
variable {prog : Program} {w : World} {A : Around} {E : Value → Shared → Prop} {s : Shared} {l : Addr} {its : List Value} {ns : List Int} {Q : Value → Shared → Prop}
theorem sum_tup (quiet : A.handled = none) (isT : s.heap.IsTuple l its.toArray) (areInts : PyProof.Rows.IntsAre its ns)
    (done : ∀ h' tk t', (∀ b o, s.heap.get? b = some o → h'.get? b = some o) → Q (.int ns.sum t') { s with heap := h', toks := tk }) : wpAny (model prog w) A (call (.builtin "sum") [.ref l]) Q E s := by
  obtain ⟨xs, e⟩ := areInts.allInts.items
  have nums : numsOf (intItems xs).toList = ns := by rw [← e]; exact areInts.numsOf
  rw [nums_intItems] at nums
  rw [e] at isT
  have small : l < s.heap.objs.size := by
    obtain ⟨_, at_l, _⟩ := isT
    exact Heap.lt_size at_l
  refine call_sum_walkG (wpAny_pyIter_tuple isT ?_)
  refine ⟨s.heap.objs.size, [s.heap.objs.size, l], [s.heap.objs.size], _, _, _, numAt xs, rfl, Walks.tuple (A := A.in1) quiet _ l (Nat.ne_of_lt small) (intItems xs), ⟨⟨_, Heap.get?_push_size _ rfl, rfl, rfl⟩, isT.push _⟩, fun b hb => ?_, (fun _ _ => intItems_at), fun h' tk t' hk => ?_⟩
  · show b < (s.heap.push _).objs.size
    rw [Heap.size_push]
    rcases List.mem_cons.mp hb with rfl | hb
    · exact Nat.lt_succ_self _
    · rw [List.mem_singleton.mp hb]
      exact Nat.lt_succ_of_lt small
  · have z := done h' tk t' fun b o eb => hk b o (fun m => absurd (Heap.lt_size eb) (List.mem_singleton.mp m ▸ Nat.lt_irrefl _)) (Heap.get?_push_of_some _ eb)
    have total : preSum (numAt xs) (intItems xs).size = ns.sum := by
      rw [preSum_eq, List.take_of_length_le (by simp [intItems]), nums]
    rw [total]
    exact z
end
section
variable {B : Bs} {X : Cx}
theorem cr_sumT (hc : X.calm = true) : CallR X (.builtin "sum") (fun vs H Q => ∃ (a : Addr) (ns : List Int), vs = [V.ref a] ∧ SqT X.K H a (ns.map V.int) ∧ Q (.int ns.sum) H) := fun pins s σ H vs us Q I r ⟨a, ns, ev, st, q⟩ => by
  subst ev
  obtain ⟨its, rv, isT, _⟩ := I.tuple st
  rw [Vals.ref1 r]
  exact sum_tup (I.ok.hd hc) (show s.heap.IsTuple _ its.toArray from isT) rv.ints fun h' tk t' kept => ⟨.int _, H, I.kept kept, ⟨_, rfl⟩, q⟩
/-- the integers of a list of data -/
def intsOf : List D → Option (List Int)
  | [] => some []
  | .int i :: r => (intsOf r).map (i :: ·)
  | _ :: _ => none
theorem intsOf_map : ∀ {ds : List D} {ns : List Int}, intsOf ds = some ns → ds = ns.map D.int
  | [], ns, h => by
    cases h
    rfl
  | .int i :: r, ns, h => by
    simp only [intsOf, Option.map_eq_some_iff] at h
    obtain ⟨m, h1, rfl⟩ := h
    rw [intsOf_map h1]
    rfl
@[simp] theorem intsOf_ints : ∀ ns : List Int, intsOf (ns.map D.int) = some ns
  | [] => rfl
  | n :: ns => by simp [intsOf, intsOf_ints ns]
theorem reps_of_ints {K : Kn} {F : Hp} : ∀ {vs : List V} {ns : List Int}, Reps K F vs (ns.map D.int) → vs = ns.map V.int
  | _, [], .nil => rfl
  | _, n :: ns, .cons (.int _) t => by rw [List.map_cons, reps_of_ints t]
def sumD : List D → (D → Prop) → Prop
  | [.lst xs], Q => ∃ ns, intsOf xs = some ns ∧ Q (.int ns.sum)
  | [.tup xs], Q => ∃ ns, intsOf xs = some ns ∧ Q (.int ns.sum)
  | _, _ => False
theorem c_sum (hc : X.calm = true) : CallR X (.builtin "sum") (LCa B X.kn sumD) := callR_by fun vs H Q ⟨F, ds, Qd, e, dk, r, q, k⟩ => by
  unfold sumD at q
  split at q
  · obtain ⟨v, rfl, r1⟩ := rb1 r
    obtain ⟨ns, h1, h2⟩ := q
    obtain ⟨a, us, rfl, st, rs⟩ := r1.lst e
    rw [intsOf_map h1] at rs
    rw [reps_of_ints rs] at st
    exact ⟨_, cr_sum hc, a, ns, rfl, SqL.of st, k.here e dk h2 (.int _)⟩
  · obtain ⟨v, rfl, r1⟩ := rb1 r
    obtain ⟨ns, h1, h2⟩ := q
    obtain ⟨a, us, rfl, _, st, rs⟩ := r1.tup e
    rw [intsOf_map h1] at rs
    rw [reps_of_ints rs] at st
    exact ⟨_, cr_sumT hc, a, ns, rfl, st, k.here e dk h2 (.int _)⟩
  · exact q.elim
/-- the bools of a list of data -/
def blsOf : List D → Option (List Bool)
  | [] => some []
  | .bl i :: r => (blsOf r).map (i :: ·)
  | _ :: _ => none
theorem blsOf_map : ∀ {ds : List D} {ns : List Bool}, blsOf ds = some ns → ds = ns.map D.bl
  | [], ns, h => by
    cases h
    rfl
  | .bl i :: r, ns, h => by
    simp only [blsOf, Option.map_eq_some_iff] at h
    obtain ⟨m, h1, rfl⟩ := h
    rw [blsOf_map h1]
    rfl
@[simp] theorem blsOf_bls : ∀ ns : List Bool, blsOf (ns.map D.bl) = some ns
  | [] => rfl
  | n :: ns => by simp [blsOf, blsOf_bls ns]
theorem reps_of_bls {K : Kn} {F : Hp} : ∀ {vs : List V} {ns : List Bool}, Reps K F vs (ns.map D.bl) → vs = ns.map V.bl
  | _, [], .nil => rfl
  | _, n :: ns, .cons (.bl _) t => by rw [List.map_cons, reps_of_bls t]
def allD : List D → (D → Prop) → Prop
  | [.lst xs], Q => ∃ bs, blsOf xs = some bs ∧ Q (.bl (bs.all id))
  | _, _ => False
def anyD : List D → (D → Prop) → Prop
  | [.lst xs], Q => ∃ bs, blsOf xs = some bs ∧ Q (.bl (bs.any id))
  | _, _ => False
theorem c_all (hc : X.calm = true) : CallR X (.builtin "all") (LCa B X.kn allD) := callR_by fun vs H Q ⟨F, ds, Qd, e, dk, r, q, k⟩ => by
  unfold allD at q
  split at q
  · obtain ⟨v, rfl, r1⟩ := rb1 r
    obtain ⟨bs, h1, h2⟩ := q
    obtain ⟨a, us, rfl, st, rs⟩ := r1.lst e
    rw [blsOf_map h1] at rs
    rw [reps_of_bls rs] at st
    exact ⟨_, cr_all hc, a, bs, rfl, SqL.of st, k.here e dk h2 (.bl _)⟩
  · exact q.elim
theorem c_any (hc : X.calm = true) : CallR X (.builtin "any") (LCa B X.kn anyD) := callR_by fun vs H Q ⟨F, ds, Qd, e, dk, r, q, k⟩ => by
  unfold anyD at q
  split at q
  · obtain ⟨v, rfl, r1⟩ := rb1 r
    obtain ⟨bs, h1, h2⟩ := q
    obtain ⟨a, us, rfl, st, rs⟩ := r1.lst e
    rw [blsOf_map h1] at rs
    rw [reps_of_bls rs] at st
    exact ⟨_, cr_any hc, a, bs, rfl, SqL.of st, k.here e dk h2 (.bl _)⟩
  · exact q.elim
def tupleD : List D → (D → Prop) → Prop
  | [.lst xs], Q => Q (.tup xs)
  | [.tup xs], Q => Q (.tup xs)
  | _, _ => False
theorem c_tuple : CallR X (.type "tuple") (LCa B X.kn tupleD) := callR_by fun vs H Q ⟨F, ds, Qd, e, dk, r, q, k⟩ => by
  unfold tupleD at q
  split at q
  · obtain ⟨v, rfl, r1⟩ := rb1 r
    obtain ⟨a, us, rfl, st, rs⟩ := r1.lst e
    exact ⟨_, call_tuple_of, a, us, rfl, .inl ⟨SqL.of st, fun p hp => k.frz e dk q hp (.tup (SqT.of upd_same) (rs.mono (same_new (e.free hp))))⟩⟩
  · obtain ⟨v, rfl, r1⟩ := rb1 r
    obtain ⟨a, us, rfl, sf, st, rs⟩ := r1.tup e
    exact ⟨_, call_tuple_of, a, us, rfl, .inr ⟨st, k.here e dk q (.tup sf rs)⟩⟩
  · exact q.elim
/-- a built-in function that gives a new list -/
def LCf (B : Bs) (K : Kn) (g : List D → (List D → Prop) → Prop) : List V → Hp → VK → Prop := fun vs H Q => ∃ F ds Qd, Same F H ∧ DeckIn B.W F H ∧ RepBs B.W K F H vs ds ∧ g ds Qd ∧ FinF B K F H Qd Q
@[simp] def gBltF (g : List D → (List D → Prop) → Prop) (fs : GA) (σ : List SV) (Q : List D → Prop) : Prop := fs σ fun ds => g ds Q
theorem tcbF_of {s : L2.St} {H : Hp} {Q : VK} {g : List D → (List D → Prop) → Prop} {fs : GA} (h : LF B X.kn (gBltF g fs) s H Q) : tCB (LCf B X.kn g) (LAB B X.kn fs) s H Q := by
  obtain ⟨σ, F, Qd, R, q, k⟩ := h
  exact ⟨σ, F, _, R, q, fun ds qd F1 H1 vs g1 d1 r1 => ⟨F1, ds, Qd, g1.fh, d1, r1, qd, k.more g1⟩⟩
def listD : List D → (List D → Prop) → Prop
  | [.lst xs], Q => Q xs
  | [.tup xs], Q => Q xs
  | _, _ => False
theorem c_list : CallR X (.type "list") (LCf B X.kn listD) := callR_by fun vs H Q ⟨F, ds, Qd, e, dk, r, q, k⟩ => by
  unfold listD at q
  split at q
  · obtain ⟨v, rfl, r1⟩ := rb1 r
    obtain ⟨a, us, rfl, st, rs⟩ := r1.lst e
    exact ⟨_, call_list_of, a, us, rfl, .inl (SqL.of st), fun p hp => k.laid e dk q hp rs⟩
  · obtain ⟨v, rfl, r1⟩ := rb1 r
    obtain ⟨a, us, rfl, _, st, rs⟩ := r1.tup e
    exact ⟨_, call_list_of, a, us, rfl, .inr st, fun p hp => k.laid e dk q hp rs⟩
  · exact q.elim
variable {x : Str} {p pos : Pos} {e : Expr} {es : List Expr} {fs : GA} {T id : String} {g : List D → (List D → Prop) → Prop}
theorem fd_callTy (hc : CallR X (.type T) (LCf B X.kn g)) (hg : Gl X x) (hm : X.mg x = none) (hv : bootBuiltins x = some (.type T)) (ha : ABD B X (e :: es) fs) (hn : x ≠ "__name__" := by decide) (hdb : (x == ("__debug__" : Str)) = false := by decide)
    (he : starEach (e :: es) X.env = (false, eval e X.env) :: starEach es X.env := by rfl) (hpl : (backTo pos (starEach es X.env)).any (·.1) = false := by rfl) : FD B X (.Call (.Name x p) (e :: es) [] pos) (gBltF g fs) :=
  ⟨pe_imp (pe_callTy hc hg hm hv ha.run hn hdb he hpl) fun s H Q h => tcbF_of h⟩
theorem fd_callB (hc : CallR X (.builtin id) (LCf B X.kn g)) (hg : Gl X x) (hm : X.mg x = none) (hv : bootBuiltins x = some (.builtin id)) (ha : ABD B X (e :: es) fs) (hn : x ≠ "__name__" := by decide) (hdb : (x == ("__debug__" : Str)) = false := by decide)
    (he : starEach (e :: es) X.env = (false, eval e X.env) :: starEach es X.env := by rfl) (hpl : (backTo pos (starEach es X.env)).any (·.1) = false := by rfl) : FD B X (.Call (.Name x p) (e :: es) [] pos) (gBltF g fs) :=
  ⟨pe_imp (pe_callB hc hg hm hv ha.run hn hdb he hpl) fun s H Q h => tcbF_of h⟩
/-- a division that stays with the plain way: the divisor short, or the dividend short -/
def DivPl (i j : Int) : Prop := j.natAbs.log2 < 9000 ∨ i.natAbs.log2 < 13500
theorem DivPl.no {i j : Int} (h : DivPl i j) : Builtin.divisionGoesByPylong i j = false := by
  rcases h with h | h
  · exact PyProof.noPylong_of_log2 h
  · show (decide ((if j == 0 then 0 else j.natAbs.log2 / 30 + 1) > 300) && decide ((if i == 0 then 0 else i.natAbs.log2 / 30 + 1) > (if j == 0 then 0 else j.natAbs.log2 / 30 + 1) + 150)) = false
    have k : (if i == 0 then 0 else i.natAbs.log2 / 30 + 1) ≤ 450 := by
      split
      · omega
      · omega
    generalize (if j == 0 then 0 else j.natAbs.log2 / 30 + 1) = y
    by_cases hy : y > 300
    · rw [decide_eq_false (fun z => by omega : ¬ _ > y + 150), Bool.and_false]
    · rw [decide_eq_false hy, Bool.false_and]
/-- floor division by any divisor but zero -/
def fdivA : D → D → (D → Prop) → Prop
  | .int i, .int j, Q => j ≠ 0 ∧ DivPl i j ∧ Q (.int (i.fdiv j))
  | _, _, _ => False
@[simp] theorem fdivA_i (i j : Int) (Q : D → Prop) : fdivA (.int i) (.int j) Q = (j ≠ 0 ∧ DivPl i j ∧ Q (.int (i.fdiv j))) := rfl
theorem op_fdivA : OpR X (binaryOp .FloorDiv) (rI (fun i j => j ≠ 0 ∧ DivPl i j) fun i j => .int (i.fdiv j)) := opI fun i j _ _ _ _ _ hc q => PyProof.Rows.floordiv_int hc.1 q (.inl hc.2.no)
theorem o_fdivA : OpR X (binaryOp .FloorDiv) (LO2 B X.kn fdivA) := opR_by fun v u H Q ⟨F, x, y, Qd, e, dk, r1, r2, q, k⟩ => by
  unfold fdivA at q
  split at q
  · exact ⟨_, op_fdivA, _, _, r1.int, r2.int, ⟨q.1, q.2.1⟩, k.here e dk q.2.2 (.int _)⟩
  · exact q.elim
/-- an error's class nm, at C, without an __init__ of its own -/
structure Er0 (K : PySem.W.Frag) (mg : Str → Option Value) (nm : Str) (C : Addr) : Prop where
  gC : mg nm = some (.ref C)
  ini : PySem.W.excIn K C exT "Exception.__new__" = true
  kC : PySem.W.keepIn K (.ref C) = true
  exC : PySem.W.subIn K (.ref C) (.type "BaseException") = some true
  tyC : PySem.W.typeIn K (.ref C) = some (.type "type")
theorem pmk_er0 {nm : Str} {C : Addr} {p pos : Pos} (T : Er0 X.K X.mg nm C) (hg : Gl X nm) (ndb : (nm == ("__debug__" : Str)) = false) : PMk X (.Call (.Name nm p) [] [] pos) (fun _ H Q => Q (.ref C) none H) :=
  fun pins s σ H Q I h => wpAny_Call_Name_kw (ld_glob I hg T.gC (PySem.W.callWith_K0 I.kIn T.kC (by
    obtain ⟨bm, N, nm, qn, bs, hdct, sn, sub, ab, col, dd, k0, k1, k2, k3, k5, mN, hC, hN, hni, tail⟩ := exc_obj I.kIn T.ini
    exact wpAny_call_exc_subT F.excBase_Exception tail hC hN hni (fun h' e hm => mk_of I hm (raises_own T.exC T.tyC) h (I.hok.gone hm.new)) (Nat.zero_le _))) ndb)
/-- raise nm() -/
@[simp] def gRaise0 (nm : Str) (R : Er → Prop) (_ : Ed) (_ : List SV) : Prop := R ⟨nm, []⟩
theorem sd_raise0 {nm : Str} {C : Addr} {p pos pos2 : Pos} {R : Er → Prop} {E : XK} (hc : X.calm = true) (T : Er0 X.K X.mg nm C) (tk : Takes X (fun c o _ H => E c o H)) (hE : FinE B.W X.kn B.F B.H R E) (hg : Gl X nm := by rfl) (ndb : (nm == ("__debug__" : Str)) = false := by decide) :
    SD B X (.Raise (some (.Call (.Name nm p) [] [] pos)) none pos2) (gRaise0 nm R) :=
  ⟨ps_imp (ps_raise hc tk (pmk_er0 T hg ndb)) fun Dn s H ⟨σ, F, Ed, Rl, q, kk⟩ => hE _ q F H (.ref C) none Rl.base Rl.deck ⟨T.gC, fun z => absurd rfl z⟩⟩
/-- sorted of integers -/
def sortedD : List D → (List D → Prop) → Prop
  | [.lst xs], Q => ∃ ns, intsOf xs = some ns ∧ ∀ ms : List Int, ms.Perm ns → ms.Pairwise (· ≤ ·) → Q (ms.map D.int)
  | _, _ => False
end
end ND

/-! ND17: targets within targets; a statement t = e for any such target -/
namespace ND
open PySem PySem.Spec L2
open PyProof.Rows (envOfC)
variable {B : Bs} {X : Cx} {e t : Expr} {ts : List Expr} {pos : Pos} {fa : GE}
abbrev GGs := List D → List SV → (List SV → Prop) → Prop
structure GDs (B : Bs) (X : Cx) (ts : List Expr) (n : Nat) (gt : GGs) : Prop where
  run : ∃ u, PGs X ts u ∧ ∀ ds vs σ s F H (Qd : List SV → Prop) (Q : L2.St → Hp → Prop), Rel B X.kn σ s F H → Reps X.kn F vs ds → ds.length = n → gt ds σ Qd → (∀ σ' s', Rel B X.kn σ' s' F H → Qd σ' → Q s' H) → u vs s H Q
@[simp] def ggNil (_ : List D) (σ : List SV) (Q : List SV → Prop) : Prop := Q σ
@[simp] def ggCons (g : GG) (h : GGs) : List D → List SV → (List SV → Prop) → Prop
  | d :: ds, σ, Q => g d σ fun σ' => h ds σ' Q
  | [], _, _ => False
theorem gds_nil : GDs B X [] 0 ggNil := ⟨_, pgs_nil, fun ds vs σ s F H Qd Q R r hl q k => by
  cases ds with
  | nil => cases r with | nil => exact ⟨rfl, k _ _ R q⟩
  | cons _ _ => cases hl⟩
theorem gds_cons {n : Nat} {g : GG} {h : GGs} (h1 : GD B X t g) (h2 : GDs B X ts n h) (hs : (assignEach (t :: ts) X.env).map (·.2) = assign t X.env :: (assignEach ts X.env).map (·.2) := by rfl) : GDs B X (t :: ts) (n + 1) (ggCons g h) := by
  obtain ⟨u1, p1, w1⟩ := h1.run
  obtain ⟨u2, p2, w2⟩ := h2.run
  refine ⟨_, pgs_cons p1 p2 hs, fun ds vs σ s F H Qd Q R r hl q k => ?_⟩
  cases r with
  | nil => cases hl
  | cons r1 r2 => exact ⟨_, _, rfl, w1 _ _ _ _ _ _ _ _ R r1 q fun σ' s' R' q' => w2 _ _ _ _ _ _ _ _ R' r2 (by simpa using hl) q' k⟩
@[simp] def ggT (n : Nat) (h : GGs) (d : D) (σ : List SV) (Q : List SV → Prop) : Prop := unT n d fun ds => h ds σ Q
theorem gd_tupG {n : Nat} {h : GGs} {kt : Nat} (hc : X.calm = true) (hn : GDs B X ts n h) (hl : (assignEach ts X.env).length = n := by rfl) (hst : (assignEach ts X.env).findIdx? (·.1) = none := by rfl) : GD B X (.Tuple ts kt pos) (ggT n h) := by
  obtain ⟨u, p, w⟩ := hn.run
  refine ⟨_, pg_tup hc p hl hst, fun d v σ s F H Qd Q R r ⟨ds, e, hl, q⟩ k => ?_⟩
  subst e
  cases r with
  | tup h r => exact ⟨_, _, rfl, same_t R.ex h, by rw [r.length]; exact hl, w _ _ _ _ _ _ _ _ R r hl q k⟩
@[simp] def gSetG (gt : GG) (fa : GE) (E : Ed) (σ : List SV) : Prop := fa σ fun d => gt d σ E.nx
theorem sd_setG {gt : GG} (ht : GD B X t gt) (ha : ED B X e fa) (hs : swapsWithSole [t] e pos.line X.env = pure false := by rfl) (hw : swappedStores [t] e X.env = pure none := by rfl)
    (h1 : (assignEach [t] X.env).map (·.2) = [assign t X.env] := by rfl) : SD B X (.Assign [t] e pos) (gSetG gt fa) := by
  obtain ⟨u, p, w⟩ := ht.run
  exact ⟨ps_imp (ps_asg ha.run p hs hw h1) fun Dn s H ⟨σ, F, E, R, q, k⟩ => ⟨σ, F, _, R, q, fun d qd F' H' v g dk r => w _ _ _ _ _ _ _ _ (R.grow g dk) r qd fun σ' s' R' q' => k.nx _ _ F' H' g.ff R' q'⟩⟩
/-! classes: what an except clause asks -/
theorem clsIn_exc {K : PySem.W.Frag} {C : Addr} {bm : List Value} {id : String} (q : PySem.W.excIn K C bm id = true) : (PySem.W.clsIn K C).isSome = true := by
  unfold PySem.W.excIn at q
  split at q
  · rename_i h
    unfold PySem.W.clsIn
    rw [h]
    rfl
  · cases q
theorem exm_of {K : PySem.W.Frag} {C D : Addr} {b : Bool} (hc : (PySem.W.clsIn K D).isSome = true) (hs : PySem.W.subIn K (.ref D) (.type "BaseException") = some true) (ht : PySem.W.typeIn K (.ref D) = some (.type "type")) (hr : PySem.W.subIn K (.ref C) (.ref D) = some b) : PySem.W.exmOne K (.ref C) (.ref D) = some b := by
  have h1 : PySem.W.kitCls K (.ref C) (.ref D) = some b := by
    show (if ((PySem.W.clsIn K D).isSome && PySem.W.typeIn K (.ref D) == some (.type "type")) = true then PySem.W.subIn K (.ref C) (.ref D) else none) = _
    have e : ((PySem.W.clsIn K D).isSome && PySem.W.typeIn K (.ref D) == some (.type "type")) = true := by rw [hc, ht, Bool.true_and, beq_iff_eq]
    rw [if_pos e]
    exact hr
  unfold PySem.W.exmOne
  rw [if_pos (by rw [hs]; exact beq_self_eq_true _)]
  exact h1
end ND

/-! ND18: repr of integers of up to 4300 digits -/
namespace ND
open PySem PySem.Spec L2
open PyProof.Rows (envOfC)
section
variable {prog : Program} {w : World} {A : Around} {E : Value → Shared → Prop} {s : Shared} {i : Int} {t : Tok} {h₀ : Heap}
/-- an integer's own __repr__ -/
theorem big_repr {Q : Value → Shared → Prop} (hn : s.heap.NoDigits) (hb : i.natAbs < 10 ^ 4300) (q : Q (.str (toString i) s.toks) { s with toks := s.toks + 1 }) :
    wpAny (model prog w) A (call (.builtin "int.__repr__") [.int i t]) Q E s := by
  refine wpAny_call_entry F.slot_int_repr (typeIs_int s i t) F.entry_int_repr ?_ (F.args_int_repr_1 _)
  unfold Builtin.«int.__repr__»
  show wpAny _ _ (do let r ← Builtin.overDigitLimit? i; _) _ _ s
  refine wpAny_bind (PyProof.Rows.overDigitLimit_any hn (fun hl => wpAny_bind (wpAny_mkStr (wpAny_pure ⟨_, rfl, q⟩) (int_text_fits10 hl))) fun hg => ?_)
  exact absurd hb (Nat.not_lt.mpr hg)
mutual
/-- data whose repr can be told: no dicts, integers below 10^4300 -/
def bigOk : PyData → Bool
  | .int i => decide (i.natAbs < 10 ^ 4300)
  | .list xs | .tuple xs => bigAll xs
  | .dict _ => false
  | _ => true
def bigAll : List PyData → Bool
  | [] => true
  | d :: ds => bigOk d && bigAll ds
end
theorem big_one (hn : h₀.NoDigits) (hb : i.natAbs < 10 ^ 4300) (as : List Addr) (n : Nat) : ReprK prog w as h₀ n (.int i t) (toString i) := fun base hz A g E s Q hg _ hu hk q => by
  have hz' : base ≤ sizeLine := by omega
  rw [pyReprUnder_leaf (v := .int i t) hz' (fun _ e => nomatch e)]
  unfold pyRepr
  exact wpAny_bind (wpAny_pyReprObj_slot (by omega) (typeIs_int s i t) F.slot_int_repr.toG (big_repr (hn.keeps hk) hb ⟨_, _, rfl, wpAny_pure (q s.heap _ fun _ _ e => e)⟩))
mutual
theorem big_reads (hn : h₀.NoDigits) : ∀ {v : Value} {d : PyData} {as : List Addr}, Reads h₀ v d as → bigOk d = true → d.shown.length ≤ sizeLine → ∃ bs, ReadAtMost h₀ d.depth bs ∧ ReprK prog w bs h₀ d.depth v d.shown
  | _, _, _, .int i t, o, _ => ⟨[], nofun, by simp only [PyData.shown]; exact big_one hn (by simp only [bigOk] at o; exact of_decide_eq_true o) _ _⟩
  | _, _, _, .none, _, z => ReprK.of_reads .none rfl (fun e => by simp [PyData.hasDict] at e) z
  | _, _, _, .bool b, _, z => ReprK.of_reads (.bool b) rfl (fun e => by simp [PyData.hasDict] at e) z
  | _, _, _, .str x t, _, z => ReprK.of_reads (.str x t) rfl (fun e => by simp [PyData.hasDict] at e) z
  | _, _, _, .dict .., o, _ => by simp [bigOk] at o
  | _, _, _, .tuple (xs := xs) g1 g2 g3 g4, o, z => by
    have z1 : (tupleText (PyData.shownAll xs)).length ≤ sizeLine := by simpa only [PyData.shown] using z
    obtain ⟨bs, le, ks⟩ := bigs_reads hn g4 (by simpa [bigOk] using o) fun t m => Nat.le_trans (tupleText_mem_le m) z1
    have rd := Reads.tuple g1 g2 g3 g4
    refine ⟨_ :: bs, .cons rd (by simp only [PyData.depth]; omega) le, ?_⟩
    simp only [PyData.depth, PyData.shown]
    exact ReprK.tuple g1 g2 g3 (not_mem_of_deeper rd (by simp only [PyData.depth]; omega) le) ks
  | _, _, _, .list (vs := vs) (xs := xs) g1 g2 g3 g4, o, z => by
    have z1 : (listText (PyData.shownAll xs)).length ≤ sizeLine := by simpa only [PyData.shown] using z
    obtain ⟨bs, le, ks⟩ := bigs_reads hn g4 (by simpa [bigOk] using o) fun t m => Nat.le_trans (listText_mem_le m) z1
    have rd := Reads.list g1 g2 g3 g4
    refine ⟨_ :: bs, .cons rd (by simp only [PyData.depth]; omega) le, ?_⟩
    simp only [PyData.depth, PyData.shown]
    have nm := not_mem_of_deeper rd (by simp only [PyData.depth]; omega) le
    rcases vs with ⟨_ | ⟨y, ys⟩⟩
    · cases (show ReadsAll h₀ [] xs _ from g4)
      simp only [PyData.shownAll, listText_nil]
      exact .listEmpty g1 g2 g3
    · exact .list g1 g2 g3 nm (by simpa using ks.length_eq) fun j y e => ks.item j y (by simpa using e)
theorem bigs_reads (hn : h₀.NoDigits) : ∀ {vs : List Value} {ds : List PyData} {as : List Addr}, ReadsAll h₀ vs ds as → bigAll ds = true → (∀ t ∈ PyData.shownAll ds, t.length ≤ sizeLine) →
    ∃ bs, ReadAtMost h₀ (PyData.depthAll ds) bs ∧ ReprAllK prog w bs h₀ (PyData.depthAll ds) vs (PyData.shownAll ds)
  | _, _, _, .nil, _, _ => ⟨[], nofun, by simp only [PyData.shownAll]; exact .nil⟩
  | _, _, _, .cons (d := d) (ds := ds) r rs, o, z => by
    simp only [bigAll, Bool.and_eq_true] at o
    simp only [PyData.shownAll, List.mem_cons, forall_eq_or_imp] at z
    obtain ⟨b1, l1, k1⟩ := big_reads hn r o.1 z.1
    obtain ⟨b2, l2, k2⟩ := bigs_reads hn rs o.2 z.2
    simp only [PyData.depthAll, PyData.shownAll]
    exact ⟨b1 ++ b2, (l1.mono (Nat.le_max_left _ _)).append (l2.mono (Nat.le_max_right _ _)),
      .cons ((k1.more fun b => List.mem_append_left _).level_le (Nat.le_max_left _ _)) (k2.more_le (fun b => List.mem_append_right _) (Nat.le_max_right _ _))⟩
end
/-- repr of a tuple or a list -/
theorem repr_big {a : Addr} {d : PyData} {as : List Addr} {Q : Value → Shared → Prop} (hn : s.heap.NoDigits) (r : Reads s.heap (.ref a) d as) (o : bigOk d = true) (z : d.shown.length ≤ sizeLine) (hg : A.guards = some []) (hu : A.units + (d.depth + 1) < cLine)
    (q : ∀ h' u tk, (∀ b o, s.heap.get? b = some o → h'.get? b = some o) → Q (.str d.shown u) { s with heap := h', toks := tk }) : wpAny (model prog w) A (call (.builtin "repr") [.ref a]) Q E s := by
  have hk0 : ∀ b o, s.heap.get? b = some o → s.heap.get? b = some o := fun _ _ e => e
  cases r with
  | tuple g1 g2 g3 g4 =>
    rename_i ob vs n xs
    have z1 : (tupleText (PyData.shownAll xs)).length ≤ sizeLine := by simpa only [PyData.shown] using z
    obtain ⟨bs, le, ks⟩ := bigs_reads (prog := prog) (w := w) hn g4 (by simpa [bigOk] using o) fun t m => Nat.le_trans (tupleText_mem_le m) z1
    have nm := not_mem_of_deeper (.tuple g1 g2 g3 g4) (by simp only [PyData.depth]; omega) le
    simp only [PyData.depth] at hu
    simp only [PyData.shown] at q
    exact call_repr_slot (by omega) ⟨ob, g1, g2⟩ F.slot_tuple_repr (call_tuple_reprK g1 g2 g3 nm ks hg (fun b _ => Clear.nil b) (by show A.units + 1 + _ < cLine; omega) hk0 (fun h' u tk k => ⟨_, _, rfl, q h' u tk k⟩) z1)
  | list g1 g2 g3 g4 =>
    rename_i ob vs n xs bs₀
    have z1 : (listText (PyData.shownAll xs)).length ≤ sizeLine := by simpa only [PyData.shown] using z
    obtain ⟨bs, le, ks⟩ := bigs_reads (prog := prog) (w := w) hn g4 (by simpa [bigOk] using o) fun t m => Nat.le_trans (listText_mem_le m) z1
    have nm := not_mem_of_deeper (.list g1 g2 g3 g4) (by simp only [PyData.depth]; omega) le
    simp only [PyData.depth] at hu
    simp only [PyData.shown] at q
    refine call_repr_slot (by omega) ⟨ob, g1, g2⟩ F.slot_list_repr.toG ?_
    rcases vs with ⟨_ | ⟨y, ys⟩⟩
    · cases (show ReadsAll s.heap [] xs _ from g4)
      simp only [PyData.shownAll, listText_nil] at q
      exact call_list_repr_empty ⟨ob, g1, g2⟩ g1 g3 ⟨_, _, rfl, q s.heap _ _ fun _ _ e => e⟩
    · exact call_list_reprK g1 g2 g3 nm (by simpa using ks.length_eq) (fun j y e => ks.item j y (by simpa using e)) hg (fun b _ => Clear.nil b) (by show A.units + 1 + _ < cLine; omega) hk0 (fun h' u tk k => ⟨_, _, rfl, q h' u tk k⟩) z1
  | dict => simp [bigOk] at o
end
/-- the written part says that no limit of digits is set -/
structure Dig (K : PySem.W.Frag) : Prop where
  ok : PySem.W.nsOkIn K cStatics = true
  no : PySem.W.nsIn K cStatics "sys.int_max_str_digits" = some none
theorem Dig.at {K : PySem.W.Frag} {h : Heap} (d : Dig K) (X : K.In h) : h.NoDigits := ⟨h.nsMap cStatics, .of_isNs (PySem.W.isNs_of_in X d.ok), PySem.W.nsMap_none_of_in X d.ok d.no⟩
section
variable {B : Bs} {X : Cx}
def reprB : List D → (D → Prop) → Prop
  | [x], Q => pl 64 x = true ∧ bigOk (toPy x) = true ∧ (toPy x).shown.length ≤ sizeLine ∧ Q (.str (toPy x).shown)
  | _, _ => False
@[simp] theorem reprB_x (x : D) (Q : D → Prop) : reprB [x] Q = (pl 64 x = true ∧ bigOk (toPy x) = true ∧ (toPy x).shown.length ≤ sizeLine ∧ Q (.str (toPy x).shown)) := rfl
theorem c_reprB (hd : Dig X.K) (hG : X.A.guards = some []) (hu : X.A.units + 65 < cLine) : CallR X (.builtin "repr") (LCa B X.kn reprB) := fun pins s σ H vs us Q I rx ⟨F, ds, Qd, e, dk, r, q, k⟩ => by
  unfold reprB at q
  split at q
  · rename_i x
    obtain ⟨v, rfl, r1⟩ := rb1 r
    obtain ⟨h1, h2, h3, h4⟩ := q
    obtain ⟨u, rfl, ru⟩ := vals1 rx
    have fin : Q (.str (toPy x).shown) H := k.here e dk h4 (.str _)
    have sh := pl_shape 64 x h1
    have nd := hd.at I.kIn
    have refs : ∀ a, v = .ref a → wpAny (model X.prog X.w) X.A (call (.builtin "repr") [u]) (EP X pins σ Q) X.xe s := fun a hv => by
      subst hv
      cases ru
      obtain ⟨as, rd⟩ := Dp.reads I _ _ _ (r1.dp e h1) rfl
      exact repr_big nd rd h2 h3 hG (by omega) fun h' u tk hk => ⟨.str _, H, I.kept (t' := tk) hk, ⟨_, rfl⟩, fin⟩
    cases x with
    | non => cases r1.non; cases ru; exact PySem.P.repr_of_none ⟨.str _, H, I.tok _, ⟨_, rfl⟩, by simpa [toPy, PyData.shown] using fin⟩
    | bl b => cases r1.bl; cases ru; exact PySem.P.repr_of_bool ⟨.str _, H, I.tok _, ⟨_, rfl⟩, by simpa [toPy, PyData.shown] using fin⟩
    | int i =>
      cases r1.int
      obtain ⟨t, rfl⟩ := ru
      refine call_repr_slot (by omega) (typeIs_int s i t) PySem.F.slot_int_repr.toG (big_repr nd (by simp only [toPy, bigOk] at h2; exact of_decide_eq_true h2) ⟨_, _, rfl, .str _, H, I.tok _, ⟨_, rfl⟩, ?_⟩)
      simpa [toPy, PyData.shown] using fin
    | str i =>
      cases r1.str
      obtain ⟨t, rfl⟩ := ru
      exact PySem.P.repr_of_str ⟨.str _, H, I.tok _, ⟨_, rfl⟩, by simpa [toPy, PyData.shown] using fin⟩ (by simpa [toPy, PyData.shown] using h3)
    | tup xs => obtain ⟨a, us, hv, _⟩ := r1.tup e; exact refs a hv
    | lst xs => obtain ⟨a, us, hv, _⟩ := r1.lst e; exact refs a hv
    | dic _ => simp [pl] at h1
    | obj _ _ => simp [pl] at h1
    | opq _ => simp [pl] at h1
  · exact q.elim
end
end ND

/-! ND19: int of a text of up to 4300 signs -/
namespace ND
open PySem PySem.Spec L2
open PyProof.Rows (envOfC)
section
open PySem.Calls PySem.NumText PySem.W.KIN PySem.W
theorem wp_max {M : Model} {A : Around} {E : Value → Shared → Prop} {s : Shared} {Q : Nat → Shared → Prop} (hn : s.heap.NoDigits) (h : Q 4300 s) : wpAny M A Builtin.intMaxStrDigits Q E s := by
  obtain ⟨mc, hns, hnone⟩ := hn
  unfold Builtin.intMaxStrDigits
  refine wpAny_bind (wpAny_nsGet hns ?_)
  rw [hnone]
  exact wpAny_pure h
theorem wp_text4 {M : Model} {A : Around} {E : Value → Shared → Prop} {s : Shared} {Q : Value → Shared → Prop} {v : Value} {text : List Nat} {n : Int} (hn : s.heap.NoDigits)
    (hs : ¬ (text.takeWhile (· != 0)).length ≤ 640) (hr : (int_private% "readNumeral") 4300 10 (text.takeWhile (· != 0)) = (int_private% "Numeral.value") n)
    (ha : ((text.takeWhile (· != 0)).length == text.length) = true) (h : Q (.int n s.toks) { s with toks := s.toks + 1 }) :
    wpAny M A ((int_private% "intFromText") v text 10) Q E s := by
  obtain ⟨hp, g, d, tk, os⟩ := s
  repeat (any_goals (first
    | assumption
    | (with_reducible refine wpAny_ite_false (decide_eq_false hs) ?_)
    | (with_reducible refine wpAny_ite_true (decide_eq_true ha) ?_)
    | (with_reducible refine wp_max hn ?_)
    | wp_step))
  all_goals (try rw [hr])
  all_goals (try dsimp only)
  repeat (any_goals (first
    | assumption
    | (with_reducible refine wpAny_ite_true (decide_eq_true ha) ?_)
    | wp_step))
theorem read4 {x : Str} {n : Int} (hx : x.length ≤ sizeLine) (hn : PySem.intText? x = some n) : (int_private% "readNumeral") 4300 10 (numSeenOf x) = (int_private% "Numeral.value") n ∧ ((numSeenOf x).length == (numTextOf x).length) = true := by
  rcases read4300 x hx with ⟨m, h1, h2, h3⟩ | ⟨h1, _⟩
  · cases hn.symm.trans h1
    exact ⟨h3, h2⟩
  · cases hn.symm.trans h1
def s4 (n : Int) : Spec := fun _ R s => s.heap.NoDigits ∧ R (.ok (.ret (.int n s.toks))) { s with toks := s.toks + 1 }
theorem meets4 {x : PySem.Str} {u : Tok} {n : Int} (hl : ¬ (numSeenOf x).length ≤ 640) (hx : x.length ≤ sizeLine) (hn : PySem.intText? x = some n) : Meets (Builtin.«int.__new__» ⟨[.type "int", .str x u], []⟩) (s4 n) := by
  rintro prog w A R s ⟨hd, h⟩
  refine wpAny_mono (Q := fun fin s' => ∃ v, fin = .done (.ret v) ∧ R (.ok (.ret v)) s') ?_ (fun fin s' h' => by obtain ⟨v, rfl, hv⟩ := h'; exact hv) fun _ _ e => e
  obtain ⟨hp, g, d, tk, os⟩ := s
  have f1 := PySem.F.conv_sub_int
  have f2 := PySem.F.madeHere_int
  have f3 := str_int
  have f4 := str_idx
  have f5 := str_trunc
  have f6 : typeOf (.str x u) = pure (.type "str") := rfl
  have hk := Hid.mk (And.intro hl (read4 hx hn))
  clear hl hn hx
  repeat (any_goals (first
    | assumption
    | ((with_reducible show wpAny _ _ ((int_private% "intFromText") _ _ _) _ _ _); refine wp_text4 hd hk.out.1 hk.out.2.1 hk.out.2.2 ?_)
    | wp_step))
  all_goals first | exact ⟨_, rfl, h⟩ | skip
theorem read1 {x : Str} {n : Int} (hs : (numSeenOf x).length ≤ 640) (hn : PySem.intText? x = some n) : (int_private% "readNumeral") 0 10 (numSeenOf x) = (int_private% "Numeral.value") n ∧ ((numSeenOf x).length == (numTextOf x).length) = true := by
  rcases read0 x hs with ⟨m, h1, h2, h3⟩ | ⟨h1, _⟩
  · cases hn.symm.trans h1
    exact ⟨h3, h2⟩
  · cases hn.symm.trans h1
theorem meets1 {x : PySem.Str} {u : Tok} {n : Int} (hl : (numSeenOf x).length ≤ 640) (hn : PySem.intText? x = some n) : Meets (Builtin.«int.__new__» ⟨[.type "int", .str x u], []⟩) (s4 n) := by
  rintro prog w A R s ⟨hd, h⟩
  refine wpAny_mono (Q := fun fin s' => ∃ v, fin = .done (.ret v) ∧ R (.ok (.ret v)) s') ?_ (fun fin s' h' => by obtain ⟨v, rfl, hv⟩ := h'; exact hv) fun _ _ e => e
  obtain ⟨hp, g, d, tk, os⟩ := s
  have f1 := PySem.F.conv_sub_int
  have f2 := PySem.F.madeHere_int
  have f3 := str_int
  have f4 := str_idx
  have f5 := str_trunc
  have f6 : typeOf (.str x u) = pure (.type "str") := rfl
  have hk := Hid.mk (And.intro hl (read1 hl hn))
  clear hl hn
  repeat (any_goals (first
    | assumption
    | ((with_reducible show wpAny _ _ ((int_private% "intFromText") _ _ _) _ _ _); refine wp_text hk.out.1 hk.out.2.1 hk.out.2.2 ?_)
    | wp_step))
  all_goals first | exact ⟨_, rfl, h⟩ | skip
theorem call_text4 {prog : Program} {w : World} {A : Around} {E : Value → Shared → Prop} {s : Shared} {Q : Value → Shared → Prop} {x : PySem.Str} {t : Tok} {n : Int} (hd : s.heap.NoDigits) (hx : x.length ≤ sizeLine) (hn : PySem.intText? x = some n)
    (h : Q (.int n s.toks) { s with toks := s.toks + 1 }) : wpAny (model prog w) A (call (.type "int") [.str x t]) Q E s := by
  by_cases hl : (numSeenOf x).length ≤ 640
  · exact call_int_1 (meets1 hl hn) ⟨hd, rfl, h⟩
  · exact call_int_1 (meets4 hl hx hn) ⟨hd, rfl, h⟩
end
section
variable {B : Bs} {X : Cx}
/-- int(..), of texts of any length that is allowed -/
def intB : List D → (D → Prop) → Prop
  | [.int i], Q => Q (.int i)
  | [.bl b], Q => Q (.int (if b = true then 1 else 0))
  | [.str x], Q => ∃ n, intText? x = some n ∧ x.length ≤ sizeLine ∧ Q (.int n)
  | _, _ => False
@[simp] theorem intB_i (i : Int) (Q : D → Prop) : intB [.int i] Q = Q (.int i) := rfl
@[simp] theorem intB_b (i : Bool) (Q : D → Prop) : intB [.bl i] Q = Q (.int (if i = true then 1 else 0)) := rfl
@[simp] theorem intB_s (x : Str) (Q : D → Prop) : intB [.str x] Q = ∃ n, intText? x = some n ∧ x.length ≤ sizeLine ∧ Q (.int n) := rfl
theorem c_intB (hd : Dig X.K) : CallR X (.type "int") (LCa B X.kn intB) := fun pins s σ H vs us Q I rx ⟨F, ds, Qd, e, dk, r, q, k⟩ => by
  unfold intB at q
  split at q
  · exact c_int pins s σ H vs us Q I rx ⟨F, _, Qd, e, dk, r, q, k⟩
  · exact c_int pins s σ H vs us Q I rx ⟨F, _, Qd, e, dk, r, q, k⟩
  · obtain ⟨v, rfl, r1⟩ := rb1 r
    obtain ⟨n, h1, h2, h3⟩ := q
    cases r1.str
    obtain ⟨u, rfl, t, rfl⟩ := vals1 rx
    exact call_text4 (hd.at I.kIn) h2 h1 ⟨.int n, H, I.tok _, ⟨_, rfl⟩, k.here e dk h3 (.int _)⟩
  · exact q.elim
end
end ND

/-! ND20: how long a repr is -/
namespace ND
open PySem PySem.Spec L2
mutual
/-- a bound of the length of the repr -/
def rsz : D → Nat
  | .non => 5
  | .bl _ => 5
  | .int _ => 4301
  | .str x => 10 * x.cps.size + 2
  | .tup xs => rszs xs + 3
  | .lst xs => rszs xs + 3
  | _ => 5
def rszs : List D → Nat
  | [] => 0
  | x :: xs => rsz x + 2 + rszs xs
end
theorem toPys_len : ∀ xs : List D, (PyData.shownAll (toPys xs)).length = xs.length
  | [] => by simp [toPys, PyData.shownAll]
  | x :: xs => by simp [toPys, PyData.shownAll, toPys_len xs]
mutual
theorem shown_rsz : ∀ (n : Nat) (d : D), pl n d = true → bigOk (toPy d) = true → (toPy d).shown.length ≤ rsz d
  | _, .non, _, _ => by show (PyData.shown .none).length ≤ 5; decide
  | _, .bl b, _, _ => by cases b <;> decide
  | _, .int i, _, h => by
    simp only [toPy, bigOk, decide_eq_true_eq] at h
    have e := int_text_length_le10 (k := 4300) (by decide) h
    simp only [toPy, PyData.shown, rsz]
    rw [ofString_length]
    exact e
  | n, .str x, h, _ => by
    have h1 : PyData.strOk x = true := by cases n <;> simpa only [pl] using h
    have hx : ∀ c ∈ x.cps.toList, c < 16 ^ 8 := fun c hc => by
      unfold PyData.strOk at h1
      rw [← Array.all_toList, List.all_eq_true] at h1
      have := of_decide_eq_true (h1 c hc)
      omega
    have e := StrLaws.reprText_len x hx
    simp only [toPy, PyData.shown, rsz]
    exact e
  | 0, .tup xs, h, _ => by simp [pl] at h
  | 0, .lst xs, h, _ => by simp [pl] at h
  | n + 1, .tup xs, h, h' => by
    have e := shownAll_rsz n xs (by simpa only [pl] using h) (by simpa only [toPy, bigOk] using h')
    have e2 := tupleText_len_le (PyData.shownAll (toPys xs))
    rw [toPys_len] at e2
    simp only [toPy, PyData.shown, rsz]
    omega
  | n + 1, .lst xs, h, h' => by
    have e := shownAll_rsz n xs (by simpa only [pl] using h) (by simpa only [toPy, bigOk] using h')
    have e2 := listText_len_le (PyData.shownAll (toPys xs))
    rw [toPys_len] at e2
    simp only [toPy, PyData.shown, rsz]
    omega
  | n, .dic _, h, _ => by simp [pl] at h
  | n, .obj _ _, h, _ => by simp [pl] at h
  | n, .opq _, h, _ => by simp [pl] at h
theorem shownAll_rsz : ∀ (n : Nat) (xs : List D), pls n xs = true → bigAll (toPys xs) = true → ((PyData.shownAll (toPys xs)).map (·.length)).sum + 2 * xs.length ≤ rszs xs
  | _, [], _, _ => by simp [toPys, PyData.shownAll, rszs]
  | n, x :: xs, h, h' => by
    simp only [pls, Bool.and_eq_true] at h
    simp only [toPys, bigAll, Bool.and_eq_true] at h'
    have e1 := shown_rsz n x h.1 h'.1
    have e2 := shownAll_rsz n xs h.2 h'.2
    simp only [toPys, PyData.shownAll, rszs, List.map_cons, List.sum_cons, List.length_cons]
    omega
end
/-- what can be shown -/
def Rok (x : D) : Prop := pl 64 x = true ∧ bigOk (toPy x) = true ∧ rsz x ≤ 16000000
theorem Rok.len {x : D} (h : Rok x) : (toPy x).shown.length ≤ sizeLine := Nat.le_trans (shown_rsz _ _ h.1 h.2.1) (Nat.le_trans h.2.2 (by decide))
theorem Rok.reprB {x : D} {Q : D → Prop} (h : Rok x) (q : Q (.str (toPy x).shown)) : reprB [x] Q := by
  rw [reprB_x]
  refine ⟨h.1, h.2.1, Nat.le_trans (shown_rsz _ _ h.1 h.2.1) (Nat.le_trans h.2.2 (by decide)), q⟩
/-- a for by what holds before each turn -/
theorem forG_inv {gt : GG} {g : GS} {E : Ed} (P : List D → List SV → Prop) (hend : ∀ σ, P [] σ → E.nx σ)
    (step : ∀ x xs σ, P (x :: xs) σ → ∀ E' : Ed, E'.rt = E.rt → E'.bk = E.nx → (∀ σ2, P xs σ2 → E'.nx σ2) → (∀ σ2, P xs σ2 → E'.ct σ2) → gt x σ fun σ' => g E' σ') : ∀ xs σ, P xs σ → forG gt g xs E σ
  | [], σ, h => hend σ h
  | x :: xs, σ, h => step x xs σ h _ rfl rfl (fun σ2 h2 => forG_inv P hend step xs σ2 h2) fun σ2 h2 => forG_inv P hend step xs σ2 h2
end ND
namespace K06
open PySem PySem.Spec L2 ND
open PyProof.Rows (envOfC)
def top (i : Nat) : Stmt := PySem.Challenge.pw_nevertwice_k06_sums_products_and_quotien.main.body.getD i (.Pass ⟨0, 0, 0, 0⟩)
theorem sc_is_integer : FnScope ["thing"] ["thing"] (defScope (top 6)) := ⟨rfl, rfl, rfl, by decide +kernel, rfl, by decide +kernel, by decide +kernel⟩
theorem bp_is_integer : BindsP "is_integer" (top 6) ["thing"] := fun _ _ _ _ _ _ us hl => match us, hl with | [_], _ => rfl
theorem sc_is_number : FnScope ["thing"] ["thing"] (defScope (top 7)) := ⟨rfl, rfl, rfl, by decide +kernel, rfl, by decide +kernel, by decide +kernel⟩
theorem bp_is_number : BindsP "is_number" (top 7) ["thing"] := fun _ _ _ _ _ _ us hl => match us, hl with | [_], _ => rfl
theorem sc_normal : FnScope ["a", "b", "d", "divisor"] ["a", "b", "d"] (defScope (top 8)) := ⟨rfl, rfl, rfl, by decide +kernel, rfl, by decide +kernel, by decide +kernel⟩
theorem bp_normal : BindsP "normal" (top 8) ["a", "b", "d"] := fun _ _ _ _ _ _ us hl => match us, hl with | [_, _, _], _ => rfl
theorem sc_negative : FnScope ["one"] ["one"] (defScope (top 9)) := ⟨rfl, rfl, rfl, by decide +kernel, rfl, by decide +kernel, by decide +kernel⟩
theorem bp_negative : BindsP "negative" (top 9) ["one"] := fun _ _ _ _ _ _ us hl => match us, hl with | [_], _ => rfl
theorem sc_added : FnScope ["one", "other", "d"] ["one", "other"] (defScope (top 10)) := ⟨rfl, rfl, rfl, by decide +kernel, rfl, by decide +kernel, by decide +kernel⟩
theorem bp_added : BindsP "added" (top 10) ["one", "other"] := fun _ _ _ _ _ _ us hl => match us, hl with | [_, _], _ => rfl
theorem sc_taken : FnScope ["one", "other"] ["one", "other"] (defScope (top 11)) := ⟨rfl, rfl, rfl, by decide +kernel, rfl, by decide +kernel, by decide +kernel⟩
theorem bp_taken : BindsP "taken" (top 11) ["one", "other"] := fun _ _ _ _ _ _ us hl => match us, hl with | [_, _], _ => rfl
theorem sc_multiplied : FnScope ["one", "other", "a", "b", "c", "e"] ["one", "other"] (defScope (top 12)) := ⟨rfl, rfl, rfl, by decide +kernel, rfl, by decide +kernel, by decide +kernel⟩
theorem bp_multiplied : BindsP "multiplied" (top 12) ["one", "other"] := fun _ _ _ _ _ _ us hl => match us, hl with | [_, _], _ => rfl
theorem sc_divided : FnScope ["one", "other", "c", "e", "top", "norm"] ["one", "other"] (defScope (top 13)) := ⟨rfl, rfl, rfl, by decide +kernel, rfl, by decide +kernel, by decide +kernel⟩
theorem bp_divided : BindsP "divided" (top 13) ["one", "other"] := fun _ _ _ _ _ _ us hl => match us, hl with | [_, _], _ => rfl
theorem sc_need_numbers : FnScope ["things", "thing"] ["things"] (defScope (top 15)) := ⟨rfl, rfl, rfl, by decide +kernel, rfl, by decide +kernel, by decide +kernel⟩
theorem bp_need_numbers : BindsP "need_numbers" (top 15) ["things"] := fun _ _ _ _ _ _ us hl => match us, hl with | [_], _ => rfl
theorem sc_is_golden : FnScope ["thing"] ["thing"] (defScope (top 16)) := ⟨rfl, rfl, rfl, by decide +kernel, rfl, by decide +kernel, by decide +kernel⟩
theorem bp_is_golden : BindsP "is_golden" (top 16) ["thing"] := fun _ _ _ _ _ _ us hl => match us, hl with | [_], _ => rfl
theorem sc_reduced : FnScope ["number"] ["number"] (defScope (top 17)) := ⟨rfl, rfl, rfl, by decide +kernel, rfl, by decide +kernel, by decide +kernel⟩
theorem bp_reduced : BindsP "reduced" (top 17) ["number"] := fun _ _ _ _ _ _ us hl => match us, hl with | [_], _ => rfl
theorem sc_plus : FnScope ["one", "other"] ["one", "other"] (defScope (top 18)) := ⟨rfl, rfl, rfl, by decide +kernel, rfl, by decide +kernel, by decide +kernel⟩
theorem bp_plus : BindsP "plus" (top 18) ["one", "other"] := fun _ _ _ _ _ _ us hl => match us, hl with | [_, _], _ => rfl
theorem sc_minus : FnScope ["one", "other"] ["one", "other"] (defScope (top 19)) := ⟨rfl, rfl, rfl, by decide +kernel, rfl, by decide +kernel, by decide +kernel⟩
theorem bp_minus : BindsP "minus" (top 19) ["one", "other"] := fun _ _ _ _ _ _ us hl => match us, hl with | [_, _], _ => rfl
theorem sc_times : FnScope ["one", "other"] ["one", "other"] (defScope (top 20)) := ⟨rfl, rfl, rfl, by decide +kernel, rfl, by decide +kernel, by decide +kernel⟩
theorem bp_times : BindsP "times" (top 20) ["one", "other"] := fun _ _ _ _ _ _ us hl => match us, hl with | [_, _], _ => rfl
theorem sc_quotient : FnScope ["one", "other"] ["one", "other"] (defScope (top 21)) := ⟨rfl, rfl, rfl, by decide +kernel, rfl, by decide +kernel, by decide +kernel⟩
theorem bp_quotient : BindsP "quotient" (top 21) ["one", "other"] := fun _ _ _ _ _ _ us hl => match us, hl with | [_, _], _ => rfl
theorem sc_conjugate : FnScope ["number"] ["number"] (defScope (top 22)) := ⟨rfl, rfl, rfl, by decide +kernel, rfl, by decide +kernel, by decide +kernel⟩
theorem bp_conjugate : BindsP "conjugate" (top 22) ["number"] := fun _ _ _ _ _ _ us hl => match us, hl with | [_], _ => rfl
theorem sc__law_deck : FnScope ["_law_script", "_law_mixed", "_law_cell"] ["_law_script"] (defScope (top 24)) := ⟨rfl, rfl, rfl, by decide +kernel, rfl, by decide +kernel, by decide +kernel⟩
theorem bp__law_deck : BindsP "_law_deck" (top 24) ["_law_script"] := fun _ _ _ _ _ _ us hl => match us, hl with | [_], _ => rfl
theorem sc__law_draw : FnScope ["_law_deck_here", "_law_many", "_law_figure", "_law_cell"] ["_law_deck_here", "_law_many"] (defScope (top 25)) := ⟨rfl, rfl, rfl, by decide +kernel, rfl, by decide +kernel, by decide +kernel⟩
theorem bp__law_draw : BindsP "_law_draw" (top 25) ["_law_deck_here", "_law_many"] := fun _ _ _ _ _ _ us hl => match us, hl with | [_, _], _ => rfl
theorem sc__law_pick : FnScope ["_law_deck_here", "_law_some"] ["_law_deck_here", "_law_some"] (defScope (top 26)) := ⟨rfl, rfl, rfl, by decide +kernel, rfl, by decide +kernel, by decide +kernel⟩
theorem bp__law_pick : BindsP "_law_pick" (top 26) ["_law_deck_here", "_law_some"] := fun _ _ _ _ _ _ us hl => match us, hl with | [_, _], _ => rfl
theorem sc__law_integer : FnScope ["_law_deck_here", "_law_pieces", "_law_way", "_law_sign", "_law_found", "_law_piece"] ["_law_deck_here", "_law_pieces"] (defScope (top 27)) := ⟨rfl, rfl, rfl, by decide +kernel, rfl, by decide +kernel, by decide +kernel⟩
theorem bp__law_integer : BindsP "_law_integer" (top 27) ["_law_deck_here", "_law_pieces"] := fun _ _ _ _ _ _ us hl => match us, hl with | [_, _], _ => rfl
theorem sc__law_common : FnScope ["_law_a", "_law_b", "_law_near", "_law_far"] ["_law_a", "_law_b"] (defScope (top 28)) := ⟨rfl, rfl, rfl, by decide +kernel, rfl, by decide +kernel, by decide +kernel⟩
theorem bp__law_common : BindsP "_law_common" (top 28) ["_law_a", "_law_b"] := fun _ _ _ _ _ _ us hl => match us, hl with | [_, _], _ => rfl
theorem sc__law_least : FnScope ["_law_a", "_law_b", "_law_d", "_law_common_here"] ["_law_a", "_law_b", "_law_d"] (defScope (top 29)) := ⟨rfl, rfl, rfl, by decide +kernel, rfl, by decide +kernel, by decide +kernel⟩
theorem bp__law_least : BindsP "_law_least" (top 29) ["_law_a", "_law_b", "_law_d"] := fun _ _ _ _ _ _ us hl => match us, hl with | [_, _, _], _ => rfl
theorem sc__law_same : FnScope ["_law_told", "_law_due"] ["_law_told", "_law_due"] (defScope (top 30)) := ⟨rfl, rfl, rfl, by decide +kernel, rfl, by decide +kernel, by decide +kernel⟩
theorem bp__law_same : BindsP "_law_same" (top 30) ["_law_told", "_law_due"] := fun _ _ _ _ _ _ us hl => match us, hl with | [_, _], _ => rfl
theorem sc__law_plus : FnScope ["_law_p", "_law_q"] ["_law_p", "_law_q"] (defScope (top 31)) := ⟨rfl, rfl, rfl, by decide +kernel, rfl, by decide +kernel, by decide +kernel⟩
theorem bp__law_plus : BindsP "_law_plus" (top 31) ["_law_p", "_law_q"] := fun _ _ _ _ _ _ us hl => match us, hl with | [_, _], _ => rfl
theorem sc__law_opposite : FnScope ["_law_p"] ["_law_p"] (defScope (top 32)) := ⟨rfl, rfl, rfl, by decide +kernel, rfl, by decide +kernel, by decide +kernel⟩
theorem bp__law_opposite : BindsP "_law_opposite" (top 32) ["_law_p"] := fun _ _ _ _ _ _ us hl => match us, hl with | [_], _ => rfl
theorem sc__law_times : FnScope ["_law_p", "_law_q", "_law_a", "_law_b", "_law_d", "_law_c", "_law_e", "_law_f"] ["_law_p", "_law_q"] (defScope (top 33)) := ⟨rfl, rfl, rfl, by decide +kernel, rfl, by decide +kernel, by decide +kernel⟩
theorem bp__law_times : BindsP "_law_times" (top 33) ["_law_p", "_law_q"] := fun _ _ _ _ _ _ us hl => match us, hl with | [_, _], _ => rfl
theorem sc__law_quotient : FnScope ["_law_p", "_law_q", "_law_a", "_law_b", "_law_d", "_law_c", "_law_e", "_law_f", "_law_norm", "_law_sign"] ["_law_p", "_law_q"] (defScope (top 34)) := ⟨rfl, rfl, rfl, by decide +kernel, rfl, by decide +kernel, by decide +kernel⟩
theorem bp__law_quotient : BindsP "_law_quotient" (top 34) ["_law_p", "_law_q"] := fun _ _ _ _ _ _ us hl => match us, hl with | [_, _], _ => rfl
theorem sc__law_conjugate : FnScope ["_law_p"] ["_law_p"] (defScope (top 35)) := ⟨rfl, rfl, rfl, by decide +kernel, rfl, by decide +kernel, by decide +kernel⟩
theorem bp__law_conjugate : BindsP "_law_conjugate" (top 35) ["_law_p"] := fun _ _ _ _ _ _ us hl => match us, hl with | [_], _ => rfl
theorem sc__law_golden : FnScope ["_law_deck_here", "_law_pieces", "_law_d"] ["_law_deck_here", "_law_pieces"] (defScope (top 36)) := ⟨rfl, rfl, rfl, by decide +kernel, rfl, by decide +kernel, by decide +kernel⟩
theorem bp__law_golden : BindsP "_law_golden" (top 36) ["_law_deck_here", "_law_pieces"] := fun _ _ _ _ _ _ us hl => match us, hl with | [_, _], _ => rfl
theorem sc__law_other : FnScope ["_law_deck_here", "_law_p", "_law_pieces", "_law_way", "_law_factor"] ["_law_deck_here", "_law_p", "_law_pieces"] (defScope (top 37)) := ⟨rfl, rfl, rfl, by decide +kernel, rfl, by decide +kernel, by decide +kernel⟩
theorem bp__law_other : BindsP "_law_other" (top 37) ["_law_deck_here", "_law_p", "_law_pieces"] := fun _ _ _ _ _ _ us hl => match us, hl with | [_, _, _], _ => rfl
theorem sc__law_divided : FnScope ["_law_p", "_law_q", "_law_is_named", "_law_told"] ["_law_p", "_law_q", "_law_is_named"] (defScope (top 38)) := ⟨rfl, rfl, rfl, by decide +kernel, rfl, by decide +kernel, by decide +kernel⟩
theorem bp__law_divided : BindsP "_law_divided" (top 38) ["_law_p", "_law_q", "_law_is_named"] := fun _ _ _ _ _ _ us hl => match us, hl with | [_, _, _], _ => rfl
theorem sc__law_are_right : FnScope ["_law_deck_here", "_law_p", "_law_q", "_law_zero", "_law_due", "_law_is_named", "_law_told", "_law_it"] ["_law_deck_here", "_law_p", "_law_q"] (defScope (top 39)) := ⟨rfl, rfl, rfl, by decide +kernel, rfl, by decide +kernel, by decide +kernel⟩
theorem bp__law_are_right : BindsP "_law_are_right" (top 39) ["_law_deck_here", "_law_p", "_law_q"] := fun _ _ _ _ _ _ us hl => match us, hl with | [_, _, _], _ => rfl
theorem sc__law_is_chain_right : FnScope ["_law_deck_here", "_law_told", "_law_due", "_law_ahead", "_law_before", "_law_turn", "_law_way", "_law_p", "_law_kept", "_law_last"] ["_law_deck_here"] (defScope (top 40)) := ⟨rfl, rfl, rfl, by decide +kernel, rfl, by decide +kernel, by decide +kernel⟩
theorem bp__law_is_chain_right : BindsP "_law_is_chain_right" (top 40) ["_law_deck_here"] := fun _ _ _ _ _ _ us hl => match us, hl with | [_], _ => rfl
theorem sc_law : FnScope ["_law_script", "_law_deck_here", "_law_turn", "_law_p", "_law_q", "_law_far"] ["_law_script"] (defScope (top 41)) := ⟨rfl, rfl, rfl, by decide +kernel, rfl, by decide +kernel, by decide +kernel⟩
theorem bp_law : BindsP "law" (top 41) ["_law_script"] := fun _ _ _ _ _ _ us hl => match us, hl with | [_], _ => rfl
theorem kb_quotient_0 : BindsKw "quotient" (top 21) ["one", "other"] ["other", "one"] 0 2 [1, 0] := fun _ _ _ _ _ _ us ws h1 h2 => match us, ws, h1, h2 with | [], [_, _], _, _ => rfl
theorem kb_reduced_0 : BindsKw "reduced" (top 17) ["number"] ["number"] 0 1 [0] := fun _ _ _ _ _ _ us ws h1 h2 => match us, ws, h1, h2 with | [], [_], _, _ => rfl
theorem kb_plus_0 : BindsKw "plus" (top 18) ["one", "other"] ["other", "one"] 0 2 [1, 0] := fun _ _ _ _ _ _ us ws h1 h2 => match us, ws, h1, h2 with | [], [_, _], _, _ => rfl
theorem kb_minus_0 : BindsKw "minus" (top 19) ["one", "other"] ["other", "one"] 0 2 [1, 0] := fun _ _ _ _ _ _ us ws h1 h2 => match us, ws, h1, h2 with | [], [_, _], _, _ => rfl
theorem kb_times_0 : BindsKw "times" (top 20) ["one", "other"] ["other", "one"] 0 2 [1, 0] := fun _ _ _ _ _ _ us ws h1 h2 => match us, ws, h1, h2 with | [], [_, _], _, _ => rfl
theorem kb_conjugate_0 : BindsKw "conjugate" (top 22) ["number"] ["number"] 0 1 [0] := fun _ _ _ _ _ _ us ws h1 h2 => match us, ws, h1, h2 with | [], [_], _, _ => rfl
structure Bt (mg : Str → Option Value) : Prop where
  b_abs : mg "abs" = none
  b_bool : mg "bool" = none
  b_int : mg "int" = none
  b_isinstance : mg "isinstance" = none
  b_len : mg "len" = none
  b_list : mg "list" = none
  b_max : mg "max" = none
  b_range : mg "range" = none
  b_repr : mg "repr" = none
  b_tuple : mg "tuple" = none
  f_gcd : mg "gcd" = some (.builtin "math.gcd")
def clsM (a b : Str) : Option Bool := if (a == "DividedByZero" && b == "DividedByZero") = true then some true else none
structure Ct (K : PySem.W.Frag) (mg : Str → Option Value) : Prop where
  er_DividedByZero : ∃ C, Er0 K mg "DividedByZero" C
  tab : ClsTab ⟨K, mg⟩ clsM
  dig : Dig K
abbrev sp__law_draw := spDraw
/-! sizes -/
def Sz (n : Nat) (i : Int) : Prop := i.natAbs < 2 ^ n
instance (n : Nat) (i : Int) : Decidable (Sz n i) := inferInstanceAs (Decidable (_ < _))
theorem Sz.mono {n m : Nat} {i : Int} (h : Sz n i) (e : n ≤ m) : Sz m i := Nat.lt_of_lt_of_le h (Nat.pow_le_pow_right (by decide) e)
theorem Sz.mul {n m : Nat} {i j : Int} (h : Sz n i) (h' : Sz m j) : Sz (n + m) (i * j) := by
  show (i * j).natAbs < 2 ^ (n + m)
  rw [Int.natAbs_mul, Nat.pow_add]
  exact Nat.mul_lt_mul'' h h'
theorem Sz.add {n : Nat} {i j : Int} (h : Sz n i) (h' : Sz n j) : Sz (n + 1) (i + j) := by
  have h1 : i.natAbs < 2 ^ n := h
  have h2 : j.natAbs < 2 ^ n := h'
  show (i + j).natAbs < 2 ^ (n + 1)
  rw [Nat.pow_succ]
  omega
theorem Sz.neg {n : Nat} {i : Int} (h : Sz n i) : Sz n (-i) := by
  show (-i).natAbs < 2 ^ n
  rw [Int.natAbs_neg]
  exact h
theorem Sz.sub {n : Nat} {i j : Int} (h : Sz n i) (h' : Sz n j) : Sz (n + 1) (i - j) := by
  rw [Int.sub_eq_add_neg]
  exact h.add h'.neg
theorem Sz.log {n : Nat} {i : Int} (h : Sz n i) : i.natAbs.log2 ≤ n := by
  by_cases e : i.natAbs = 0
  · rw [e]
    simp
  · exact Nat.le_of_lt ((Nat.log2_lt e).mpr h)
theorem Sz.ok {n m : Nat} {i j : Int} (h : Sz n i) (h' : Sz m j) (e : n + m < 1000000) : ND.MulOk i j := by
  have := h.log
  have := h'.log
  show i.natAbs.log2 + j.natAbs.log2 < 1000000
  omega
theorem five_sq : ∀ (n : Nat) (x b : Nat), b ≤ n → x * x = 5 * b * b → b = 0
  | 0, x, b, h, _ => by omega
  | n + 1, x, b, h, e => by
    have h5 : x % 5 = 0 := by
      have h1 : (x * x) % 5 = 0 := by rw [e, Nat.mul_assoc, Nat.mul_mod_right]
      rw [Nat.mul_mod] at h1
      have h2 : x % 5 < 5 := Nat.mod_lt _ (by decide)
      generalize x % 5 = y at h1 h2 ⊢
      have : y = 0 ∨ y = 1 ∨ y = 2 ∨ y = 3 ∨ y = 4 := by omega
      rcases this with h | h | h | h | h <;> subst h <;> simp_all
    obtain ⟨y, rfl⟩ : ∃ y, x = 5 * y := ⟨x / 5, by omega⟩
    have e2 : b * b = 5 * y * y := by
      have : 5 * y * (5 * y) = 5 * (5 * y * y) := by simp [Nat.mul_assoc, Nat.mul_comm, Nat.mul_left_comm]
      have h3 : 5 * b * b = 5 * (b * b) := Nat.mul_assoc _ _ _
      omega
    by_cases hb : b = 0
    · exact hb
    · have hy : y < b := by
        rcases Nat.lt_or_ge y b with h | h
        · exact h
        · have h1 := Nat.mul_le_mul h h
          have h2 : 5 * y * y = 5 * (y * y) := Nat.mul_assoc _ _ _
          have h3 : 0 < b * b := Nat.mul_pos (by omega) (by omega)
          omega
      have z := five_sq n b y (by omega) e2
      subst z
      have : b * b = 0 := by omega
      exact absurd ((Nat.mul_eq_zero.mp this).elim id id) hb
theorem no_tie {x b : Int} (hb : b ≠ 0) : x * x ≠ 5 * b * b := fun e => by
  have e2 : x.natAbs * x.natAbs = 5 * b.natAbs * b.natAbs := by
    have := congrArg Int.natAbs e
    rw [Int.natAbs_mul, Int.natAbs_mul, Int.natAbs_mul] at this
    exact this
  have := five_sq b.natAbs x.natAbs b.natAbs (Nat.le_refl _) e2
  omega

abbrev tri (a b m : Int) : D := .tup [.int a, .int b, .int m]
/-- the common divisor with the sign of d -/
def cdv (a b d : Int) : Int := if d < 0 then -((Nat.gcd (Nat.gcd a.natAbs b.natAbs) d.natAbs : Nat) : Int) else ((Nat.gcd (Nat.gcd a.natAbs b.natAbs) d.natAbs : Nat) : Int)
/-- the reduced number -/
def red (a b d : Int) : D := tri (a.fdiv (cdv a b d)) (b.fdiv (cdv a b d)) (d.fdiv (cdv a b d))
theorem cdv_ne {a b d : Int} (h : d ≠ 0) : cdv a b d ≠ 0 := by
  have : 0 < Nat.gcd (Nat.gcd a.natAbs b.natAbs) d.natAbs := Nat.gcd_pos_of_pos_right _ (Int.natAbs_pos.mpr h)
  unfold cdv
  split <;> omega
theorem cdv_neg {a b d : Int} (h : d ≠ 0) : cdv (-a) (-b) (-d) = -cdv a b d := by
  unfold cdv
  rw [Int.natAbs_neg, Int.natAbs_neg, Int.natAbs_neg]
  rcases Int.lt_or_gt_of_ne h with h | h
  · rw [if_neg (by omega), if_pos h, Int.neg_neg]
  · rw [if_pos (by omega), if_neg (by omega)]
theorem red_neg {a b d : Int} (h : d ≠ 0) : red (-a) (-b) (-d) = red a b d := by
  unfold red
  rw [cdv_neg h, Int.neg_fdiv_neg, Int.neg_fdiv_neg, Int.neg_fdiv_neg]
theorem cdv_one (a b : Int) : cdv a b 1 = 1 := by
  unfold cdv
  rw [if_neg (by decide)]
  simp
theorem red_one (a b : Int) : red a b 1 = tri a b 1 := by
  unfold red
  rw [cdv_one, Int.fdiv_one, Int.fdiv_one, Int.fdiv_one]
theorem cdv_dvd (a b d : Int) : cdv a b d ∣ a ∧ cdv a b d ∣ b ∧ cdv a b d ∣ d := by
  have h1 : (((Nat.gcd (Nat.gcd a.natAbs b.natAbs) d.natAbs : Nat) : Int)) ∣ a := Int.ofNat_dvd_left.mpr (Nat.dvd_trans (Nat.gcd_dvd_left _ _) (Nat.gcd_dvd_left _ _))
  have h2 : (((Nat.gcd (Nat.gcd a.natAbs b.natAbs) d.natAbs : Nat) : Int)) ∣ b := Int.ofNat_dvd_left.mpr (Nat.dvd_trans (Nat.gcd_dvd_left _ _) (Nat.gcd_dvd_right _ _))
  have h3 : (((Nat.gcd (Nat.gcd a.natAbs b.natAbs) d.natAbs : Nat) : Int)) ∣ d := Int.ofNat_dvd_left.mpr (Nat.gcd_dvd_right _ _)
  unfold cdv
  split
  · exact ⟨Int.neg_dvd.mpr h1, Int.neg_dvd.mpr h2, Int.neg_dvd.mpr h3⟩
  · exact ⟨h1, h2, h3⟩
theorem fdiv_sz {n : Nat} {a c : Int} (h : Sz n a) (hd : c ∣ a) (hc : c ≠ 0) : Sz n (a.fdiv c) := by
  obtain ⟨k, rfl⟩ := hd
  rw [Int.mul_fdiv_cancel_left _ hc]
  have h1 : (c * k).natAbs < 2 ^ n := h
  rw [Int.natAbs_mul] at h1
  have : 1 ≤ c.natAbs := Int.natAbs_pos.mpr hc
  exact Nat.lt_of_le_of_lt (Nat.le_mul_of_pos_left _ this) h1
theorem cdv_sign {a b d : Int} (h : d ≠ 0) : (d < 0 ∧ cdv a b d < 0) ∨ (0 < d ∧ 0 < cdv a b d) := by
  have : 0 < Nat.gcd (Nat.gcd a.natAbs b.natAbs) d.natAbs := Nat.gcd_pos_of_pos_right _ (Int.natAbs_pos.mpr h)
  unfold cdv
  rcases Int.lt_or_gt_of_ne h with h | h
  · rw [if_pos h]; omega
  · rw [if_neg (by omega)]; omega
theorem fdiv_pos' {a b d : Int} (h : d ≠ 0) : 1 ≤ d.fdiv (cdv a b d) := by
  have hc := cdv_ne (a := a) (b := b) h
  have hs := cdv_sign (a := a) (b := b) h
  obtain ⟨k, e⟩ := (cdv_dvd a b d).2.2
  generalize cdv a b d = c at *
  subst e
  rw [Int.mul_fdiv_cancel_left _ hc]
  rcases hs with ⟨h1, h2⟩ | ⟨h1, h2⟩
  · rcases Int.lt_or_le 0 k with hk | hk
    · exact hk
    · have := Int.mul_nonneg_of_nonpos_of_nonpos (Int.le_of_lt h2) hk
      omega
  · rcases Int.lt_or_le 0 k with hk | hk
    · exact hk
    · have := Int.mul_nonpos_of_nonneg_of_nonpos (Int.le_of_lt h2) hk
      omega
/-- a number below 2^n -/
def Num (n : Nat) (a b d : Int) : Prop := Sz n a ∧ Sz n b ∧ Sz n d ∧ 1 ≤ d
theorem red_num {n : Nat} {a b d : Int} (ha : Sz n a) (hb : Sz n b) (hd : Sz n d) (h : d ≠ 0) : ∃ x y z, red a b d = tri x y z ∧ Num n x y z := by
  obtain ⟨d1, d2, d3⟩ := cdv_dvd a b d
  exact ⟨_, _, _, rfl, fdiv_sz ha d1 (cdv_ne h), fdiv_sz hb d2 (cdv_ne h), fdiv_sz hd d3 (cdv_ne h), fdiv_pos' h⟩
theorem cdv_sz {n : Nat} {a b d : Int} (hd : Sz n d) (h : d ≠ 0) : Sz n (cdv a b d) := by
  obtain ⟨k, e⟩ := (cdv_dvd a b d).2.2
  have hk : k ≠ 0 := fun z => h (by rw [e, z, Int.mul_zero])
  have h1 : d.natAbs < 2 ^ n := hd
  have h2 : d.natAbs = (cdv a b d).natAbs * k.natAbs := by
    conv => lhs; rw [e]
    exact Int.natAbs_mul _ _
  rw [h2] at h1
  exact Nat.lt_of_le_of_lt (Nat.le_mul_of_pos_right _ (Int.natAbs_pos.mpr hk)) h1
/-- Euclid -/
theorem gcd_step {x y : Int} (hx : 0 ≤ x) (hy : 0 < y) : Nat.gcd y.natAbs (x % y).natAbs = Nat.gcd x.natAbs y.natAbs := by
  have e : (x % y).natAbs = x.natAbs % y.natAbs := by
    rw [Int.natAbs_emod_of_nonneg hx]
  rw [e, Nat.gcd_comm y.natAbs, ← Nat.gcd_rec, Nat.gcd_comm]
/-- the norm is zero for zero alone -/
theorem norm_ne {c e : Int} (h : ¬ (c = 0 ∧ e = 0)) : c * c + c * e - e * e ≠ 0 := fun z => by
  have h5 : (2 * c + e) * (2 * c + e) = 5 * e * e := by
    have : (2 * c + e) * (2 * c + e) = 4 * (c * c + c * e - e * e) + 5 * e * e := by
      simp only [Int.mul_add, Int.add_mul, Int.mul_sub, Int.mul_assoc, Int.mul_left_comm _ 2, Int.mul_comm e c]
      omega
    omega
  by_cases he : e = 0
  · subst he
    have : c * c = 0 := by simpa using z
    rcases Int.mul_eq_zero.mp this with h1 | h1 <;> exact h ⟨h1, rfl⟩
  · exact no_tie he h5
abbrev dkD (d : Addr) : D := .opq (.ref d)
def isI : D → Bool | .int _ => true | _ => false
def sp_is_integer : DSp := fun _ ds Q _ => ∃ x, ds = [x] ∧ (tyD x).isSome = true ∧ Q (.bl (isI x))
def sp_is_number : DSp := fun _ ds Q _ => ∃ a b m, ds = [tri a b m] ∧ 1 ≤ m ∧ Q (.bl true)
def sp_is_golden : DSp := sp_is_number
def sp_normal : DSp := fun _ ds Q _ => ∃ a b d, ds = [.int a, .int b, .int d] ∧ Sz 13000 a ∧ Sz 13000 b ∧ Sz 13000 d ∧ d ≠ 0 ∧ Q (red a b d)
def sp__law_least : DSp := fun _ ds Q _ => ∃ a b d, ds = [.int a, .int b, .int d] ∧ Sz 13000 a ∧ Sz 13000 b ∧ Sz 13000 d ∧ 1 ≤ d ∧ Q (red a b d)
def sp_negative : DSp := fun _ ds Q _ => ∃ a b m, ds = [tri a b m] ∧ Q (tri (-a) (-b) m)
def sp__law_opposite : DSp := sp_negative
def sp__law_common : DSp := fun _ ds Q _ => ∃ a b, ds = [.int a, .int b] ∧ Q (.int ((Nat.gcd a.natAbs b.natAbs : Nat) : Int))
def sp__law_same : DSp := fun _ ds Q _ => ∃ x, ds = [x, x] ∧ Rok x ∧ Q (.bl true)
def sp_added : DSp := fun _ ds Q _ => ∃ n m a b d c e f, ds = [tri a b d, tri c e f] ∧ Num n a b d ∧ Num m c e f ∧ n + m ≤ 12000 ∧ Q (red (a * f + c * d) (b * f + e * d) (d * f))
def sp__law_plus : DSp := sp_added
def sp_taken : DSp := fun _ ds Q _ => ∃ n m a b d c e f, ds = [tri a b d, tri c e f] ∧ Num n a b d ∧ Num m c e f ∧ n + m ≤ 12000 ∧ Q (red (a * f + -c * d) (b * f + -e * d) (d * f))
def sp_multiplied : DSp := fun _ ds Q _ => ∃ n m a b d c e f, ds = [tri a b d, tri c e f] ∧ Num n a b d ∧ Num m c e f ∧ n + m ≤ 12000 ∧ Q (red (a * c + b * e) (a * e + b * c + b * e) (d * f))
def sp__law_times : DSp := sp_multiplied
def sp_divided : DSp := fun _ ds Q _ => ∃ n m a b d c e f, ds = [tri a b d, tri c e f] ∧ Num n a b d ∧ Num m c e f ∧ n + 2 * m ≤ 11900 ∧ ¬ (c = 0 ∧ e = 0) ∧ Q (red ((a * (c + e) - b * e) * f) ((b * c - a * e) * f) ((c * c + c * e - e * e) * d))
def sp__law_quotient : DSp := sp_divided
def sp__law_conjugate : DSp := fun _ ds Q _ => ∃ n a b d, ds = [tri a b d] ∧ Num n a b d ∧ n ≤ 12000 ∧ Q (red (a + b) (-b) d)
def sp_need_numbers : DSp := fun _ ds Q _ => ∃ xs, ds = [.tup xs] ∧ (∀ x ∈ xs, ∃ a b m, x = tri a b m ∧ 1 ≤ m) ∧ Q .non
def sp_reduced : DSp := fun _ ds Q _ => ∃ n a b d, ds = [tri a b d] ∧ Num n a b d ∧ n ≤ 12000 ∧ Q (red a b d)
def sp_conjugate : DSp := sp__law_conjugate
def sp_plus : DSp := sp_added
def sp_minus : DSp := sp_taken
def sp_times : DSp := sp_multiplied
def sp_quotient : DSp := fun _ ds Q R => ∃ n m a b d c e f, ds = [tri a b d, tri c e f] ∧ Num n a b d ∧ Num m c e f ∧ n + 2 * m ≤ 11900 ∧ ((c = 0 ∧ e = 0) → R ⟨"DividedByZero", []⟩) ∧ (¬ (c = 0 ∧ e = 0) → Q (red ((a * (c + e) - b * e) * f) ((b * c - a * e) * f) ((c * c + c * e - e * e) * d)))
def sp__law_pick : DSp := fun W ds Q _ => ∃ d l xs, W = some (d, l) ∧ ds = [dkD d, .tup xs] ∧ 0 < xs.length ∧ xs.length < 2 ^ 62 ∧ ∀ x ∈ xs, Q x
def sp__law_integer : DSp := fun W ds Q _ => ∃ d l, ∃ n : Nat, W = some (d, l) ∧ ds = [dkD d, .int n] ∧ 1 ≤ n ∧ n ≤ 170 ∧ ∀ i, Sz (20 * n + 20) i → Q (.int i)
def sp__law_golden : DSp := fun W ds Q _ => ∃ d l, ∃ n : Nat, W = some (d, l) ∧ ds = [dkD d, .int n] ∧ 1 ≤ n ∧ n ≤ 170 ∧ ∀ a b m, Num (20 * n + 21) a b m → Q (tri a b m)
def sp__law_other : DSp := fun W ds Q _ => ∃ d l, ∃ n : Nat, ∃ a b m, W = some (d, l) ∧ ds = [dkD d, tri a b m, .int n] ∧ 1 ≤ n ∧ n ≤ 170 ∧ Num (20 * n + 21) a b m ∧ ∀ a b m, Num (20 * n + 30) a b m → Q (tri a b m)
def sp__law_divided : DSp := fun _ ds Q _ => ∃ n m a b d c e f t, ds = [tri a b d, tri c e f, .bl t] ∧ Num n a b d ∧ Num m c e f ∧ n + 2 * m ≤ 11900 ∧ ((c = 0 ∧ e = 0) → Q (.str "zero")) ∧ (¬ (c = 0 ∧ e = 0) → Q (red ((a * (c + e) - b * e) * f) ((b * c - a * e) * f) ((c * c + c * e - e * e) * d)))
def sp__law_is_chain_right : DSp := fun W ds Q _ => ∃ d l, W = some (d, l) ∧ ds = [dkD d] ∧ Q (.bl true)
def sp__law_are_right : DSp := fun W ds Q _ => ∃ d l a b m c e f, W = some (d, l) ∧ ds = [dkD d, tri a b m, tri c e f] ∧ Num 3440 a b m ∧ Num 3440 c e f ∧ Q (.bl true)
def g_is_integer (W : WD) (R : Er → Prop) : GS :=
  (gRet (gAnd (gBlt isiD (gCons (gVar 0) (gCons (gC (.opq (.ty "int"))) gNil))) (gNot (gBlt isiD (gCons (gVar 0) (gCons (gC (.opq (.ty "bool"))) gNil))))))
def g_normal (W : WD) (R : Er → Prop) : GS :=
  (gSeq (gSet 3 (gBlt gcdD (gCons (gBlt gcdD (gCons (gVar 0) (gCons (gVar 1) gNil))) (gCons (gVar 2) gNil))))
    (gSeq (gIfS (gB (gBin ltD (gVar 2) (gC (.int 0)))) (gSet 3 (gUn negD (gVar 3))) gSkip)
    (gRet (gTup (gCons (gBin fdivA (gVar 0) (gVar 3)) (gCons (gBin fdivA (gVar 1) (gVar 3)) (gCons (gBin fdivA (gVar 2) (gVar 3)) gNil)))))))
def g_negative (W : WD) (R : Er → Prop) : GS :=
  (gRet (gTup (gCons (gUn negD (gBin ixD (gVar 0) (gC (.int 0)))) (gCons (gUn negD (gBin ixD (gVar 0) (gC (.int 1)))) (gCons (gBin ixD (gVar 0) (gC (.int 2))) gNil)))))
def g__law_common (W : WD) (R : Er → Prop) : GS :=
  (gSeq (gPar [2, 3] (gCons (gBlt absD (gCons (gVar 0) gNil)) (gCons (gBlt absD (gCons (gVar 1) gNil)) gNil)))
    (gSeq (gWhile (gB (gBin neD (gVar 3) (gC (.int 0)))) (gPar [2, 3] (gCons (gVar 3) (gCons (gBin modD (gBlt intB (gCons (gVar 2) gNil)) (gVar 3)) gNil))))
    (gRet (gVar 2))))
def g__law_same (W : WD) (R : Er → Prop) : GS :=
  (gRet (gBin eqD (gBlt reprB (gCons (gVar 0) gNil)) (gBlt reprB (gCons (gVar 1) gNil))))
def g__law_opposite (W : WD) (R : Er → Prop) : GS :=
  (gRet (gTup (gCons (gUn negD (gBin ixD (gVar 0) (gC (.int 0)))) (gCons (gUn negD (gBin ixD (gVar 0) (gC (.int 1)))) (gCons (gBin ixD (gVar 0) (gC (.int 2))) gNil)))))
def g_is_number (W : WD) (R : Er → Prop) : GS :=
  (gSeq (gIfS (gOrT (gNotT (gTru (gBlt isiD (gCons (gVar 0) (gCons (gC (.opq (.ty "tuple"))) gNil))))) (gB (gBin neD (gBlt lenD (gCons (gVar 0) gNil)) (gC (.int 3))))) (gRet (gC (.bl false))) gSkip)
    (gRet (gAnd (gCall sp_is_integer W R (gCons (gBin ixD (gVar 0) (gC (.int 0))) gNil)) (gAnd (gCall sp_is_integer W R (gCons (gBin ixD (gVar 0) (gC (.int 1))) gNil)) (gAnd (gCall sp_is_integer W R (gCons (gBin ixD (gVar 0) (gC (.int 2))) gNil)) (gBin geD (gBin ixD (gVar 0) (gC (.int 2))) (gC (.int 1))))))))
def g_added (W : WD) (R : Er → Prop) : GS :=
  (gSeq (gSet 2 (gBin mulD (gBin ixD (gVar 0) (gC (.int 2))) (gBin ixD (gVar 1) (gC (.int 2)))))
    (gRet (gCall sp_normal W R (gCons (gBin addD (gBin mulD (gBin ixD (gVar 0) (gC (.int 0))) (gBin ixD (gVar 1) (gC (.int 2)))) (gBin mulD (gBin ixD (gVar 1) (gC (.int 0))) (gBin ixD (gVar 0) (gC (.int 2))))) (gCons (gBin addD (gBin mulD (gBin ixD (gVar 0) (gC (.int 1))) (gBin ixD (gVar 1) (gC (.int 2)))) (gBin mulD (gBin ixD (gVar 1) (gC (.int 1))) (gBin ixD (gVar 0) (gC (.int 2))))) (gCons (gVar 2) gNil))))))
def g_multiplied (W : WD) (R : Er → Prop) : GS :=
  (gSeq (gSetT [2, 3, 4, 5] (gTup (gCons (gBin ixD (gVar 0) (gC (.int 0))) (gCons (gBin ixD (gVar 0) (gC (.int 1))) (gCons (gBin ixD (gVar 1) (gC (.int 0))) (gCons (gBin ixD (gVar 1) (gC (.int 1))) gNil))))))
    (gRet (gCall sp_normal W R (gCons (gBin addD (gBin mulD (gVar 2) (gVar 4)) (gBin mulD (gVar 3) (gVar 5))) (gCons (gBin addD (gBin addD (gBin mulD (gVar 2) (gVar 5)) (gBin mulD (gVar 3) (gVar 4))) (gBin mulD (gVar 3) (gVar 5))) (gCons (gBin mulD (gBin ixD (gVar 0) (gC (.int 2))) (gBin ixD (gVar 1) (gC (.int 2)))) gNil))))))
def g__law_pick (W : WD) (R : Er → Prop) : GS :=
  (gRet (gBin ixD (gVar 1) (gCall sp__law_draw W R (gCons (gVar 0) (gCons (gBlt lenD (gCons (gVar 1) gNil)) gNil)))))
def g__law_integer (W : WD) (R : Er → Prop) : GS :=
  (gSeq (gPar [2, 3, 4] (gCons (gCall sp__law_draw W R (gCons (gVar 0) (gCons (gC (.int 9)) gNil))) (gCons (gBin subD (gC (.int 1)) (gBin mulD (gC (.int 2)) (gCall sp__law_draw W R (gCons (gVar 0) (gCons (gC (.int 2)) gNil))))) (gCons (gC (.int 0)) gNil))))
    (gSeq (gIfS (gB (gBin ltD (gVar 2) (gC (.int 6)))) (gRet (gBin mulD (gVar 3) (gCall sp__law_draw W R (gCons (gVar 0) (gCons (gBin ixD (gTup (gCons (gC (.int 1)) (gCons (gC (.int 3)) (gCons (gC (.int 5)) (gCons (gC (.int 13)) (gCons (gC (.int 100)) (gCons (gC (.int 1000)) gNil))))))) (gVar 2)) gNil))))) gSkip)
    (gSeq (gIfS (gB (gBin eqD (gVar 2) (gC (.int 6)))) (gRet (gBin mulD (gVar 3) (gBin subD (gBlt intB (gCons (gBin repS (gC (.str "9")) (gBin mulD (gC (.int 6)) (gVar 1))) gNil)) (gCall sp__law_draw W R (gCons (gVar 0) (gCons (gC (.int 50)) gNil)))))) gSkip)
    (gSeq (gFor (gRng1 (gCons (gBin addD (gC (.int 1)) (gCall sp__law_draw W R (gCons (gVar 0) (gCons (gVar 1) gNil)))) gNil)) (ggName 5) (gSet 4 (gBin addD (gBin mulD (gVar 4) (gBin powD (gC (.int 10)) (gC (.int 6)))) (gCall sp__law_draw W R (gCons (gVar 0) (gCons (gBin powD (gC (.int 10)) (gC (.int 6))) gNil))))))
    (gRet (gBin mulD (gVar 3) (gVar 4)))))))
def g__law_least (W : WD) (R : Er → Prop) : GS :=
  (gSeq (gSet 3 (gCall sp__law_common W R (gCons (gCall sp__law_common W R (gCons (gVar 0) (gCons (gVar 1) gNil))) (gCons (gVar 2) gNil))))
    (gRet (gTup (gCons (gBin fdivA (gVar 0) (gVar 3)) (gCons (gBin fdivA (gVar 1) (gVar 3)) (gCons (gBin fdivA (gVar 2) (gVar 3)) gNil))))))
def g_taken (W : WD) (R : Er → Prop) : GS :=
  (gRet (gCall sp_added W R (gCons (gVar 0) (gCons (gCall sp_negative W R (gCons (gVar 1) gNil)) gNil))))
def g_divided (W : WD) (R : Er → Prop) : GS :=
  (gSeq (gPar [2, 3] (gCons (gBin ixD (gVar 1) (gC (.int 0))) (gCons (gBin ixD (gVar 1) (gC (.int 1))) gNil)))
    (gSeq (gSet 4 (gCall sp_multiplied W R (gCons (gTup (gCons (gBin ixD (gVar 0) (gC (.int 0))) (gCons (gBin ixD (gVar 0) (gC (.int 1))) (gCons (gC (.int 1)) gNil)))) (gCons (gTup (gCons (gBin addD (gVar 2) (gVar 3)) (gCons (gUn negD (gVar 3)) (gCons (gC (.int 1)) gNil)))) gNil))))
    (gSeq (gSet 5 (gBin subD (gBin addD (gBin mulD (gVar 2) (gVar 2)) (gBin mulD (gVar 2) (gVar 3))) (gBin mulD (gVar 3) (gVar 3))))
    (gRet (gCall sp_normal W R (gCons (gBin mulD (gBin ixD (gVar 4) (gC (.int 0))) (gBin ixD (gVar 1) (gC (.int 2)))) (gCons (gBin mulD (gBin ixD (gVar 4) (gC (.int 1))) (gBin ixD (gVar 1) (gC (.int 2)))) (gCons (gBin mulD (gVar 5) (gBin ixD (gVar 0) (gC (.int 2)))) gNil))))))))
def g_need_numbers (W : WD) (R : Er → Prop) : GS :=
  (gFor (gIter (gVar 0)) (ggName 1) (gIfS (gNotT (gTru (gCall sp_is_number W R (gCons (gVar 1) gNil)))) gNever gSkip))
def g_is_golden (W : WD) (R : Er → Prop) : GS :=
  (gRet (gCall sp_is_number W R (gCons (gVar 0) gNil)))
def g__law_plus (W : WD) (R : Er → Prop) : GS :=
  (gRet (gCall sp__law_least W R (gCons (gBin addD (gBin mulD (gBin ixD (gVar 0) (gC (.int 0))) (gBin ixD (gVar 1) (gC (.int 2)))) (gBin mulD (gBin ixD (gVar 1) (gC (.int 0))) (gBin ixD (gVar 0) (gC (.int 2))))) (gCons (gBin addD (gBin mulD (gBin ixD (gVar 0) (gC (.int 1))) (gBin ixD (gVar 1) (gC (.int 2)))) (gBin mulD (gBin ixD (gVar 1) (gC (.int 1))) (gBin ixD (gVar 0) (gC (.int 2))))) (gCons (gBin mulD (gBin ixD (gVar 0) (gC (.int 2))) (gBin ixD (gVar 1) (gC (.int 2)))) gNil)))))
def g__law_times (W : WD) (R : Er → Prop) : GS :=
  (gSeq (gSetG (ggT 2 (ggCons (ggT 3 (ggCons (ggName 2) (ggCons (ggName 3) (ggCons (ggName 4) ggNil)))) (ggCons (ggT 3 (ggCons (ggName 5) (ggCons (ggName 6) (ggCons (ggName 7) ggNil)))) ggNil))) (gTup (gCons (gVar 0) (gCons (gVar 1) gNil))))
    (gRet (gCall sp__law_least W R (gCons (gBin addD (gBin mulD (gVar 2) (gVar 5)) (gBin mulD (gVar 3) (gVar 6))) (gCons (gBin addD (gBin addD (gBin mulD (gVar 2) (gVar 6)) (gBin mulD (gVar 3) (gVar 5))) (gBin mulD (gVar 3) (gVar 6))) (gCons (gBin mulD (gVar 4) (gVar 7)) gNil))))))
def g__law_quotient (W : WD) (R : Er → Prop) : GS :=
  (gSeq (gSetG (ggT 2 (ggCons (ggT 3 (ggCons (ggName 2) (ggCons (ggName 3) (ggCons (ggName 4) ggNil)))) (ggCons (ggT 3 (ggCons (ggName 5) (ggCons (ggName 6) (ggCons (ggName 7) ggNil)))) ggNil))) (gTup (gCons (gVar 0) (gCons (gVar 1) gNil))))
    (gSeq (gSet 8 (gBin subD (gBin addD (gBin mulD (gVar 5) (gVar 5)) (gBin mulD (gVar 5) (gVar 6))) (gBin mulD (gVar 6) (gVar 6))))
    (gSeq (gSet 9 (gIf (gB (gBin gtD (gVar 8) (gC (.int 0)))) (gC (.int 1)) (gUn negD (gC (.int 1)))))
    (gRet (gCall sp__law_least W R (gCons (gBin mulD (gBin mulD (gVar 9) (gVar 7)) (gBin subD (gBin mulD (gVar 2) (gBin addD (gVar 5) (gVar 6))) (gBin mulD (gVar 3) (gVar 6)))) (gCons (gBin mulD (gBin mulD (gVar 9) (gVar 7)) (gBin subD (gBin mulD (gVar 3) (gVar 5)) (gBin mulD (gVar 2) (gVar 6)))) (gCons (gBin mulD (gBin mulD (gVar 9) (gVar 8)) (gVar 4)) gNil))))))))
def g__law_conjugate (W : WD) (R : Er → Prop) : GS :=
  (gRet (gCall sp__law_least W R (gCons (gBin addD (gBin ixD (gVar 0) (gC (.int 0))) (gBin ixD (gVar 0) (gC (.int 1)))) (gCons (gUn negD (gBin ixD (gVar 0) (gC (.int 1)))) (gCons (gBin ixD (gVar 0) (gC (.int 2))) gNil)))))
def g__law_golden (W : WD) (R : Er → Prop) : GS :=
  (gSeq (gSet 2 (gCall sp__law_pick W R (gCons (gVar 0) (gCons (gTup (gCons (gC (.int 1)) (gCons (gC (.int 2)) (gCons (gC (.int 3)) (gCons (gC (.int 5)) (gCons (gC (.int 4)) (gCons (gC (.int 6)) (gCons (gC (.int 10)) (gCons (gC (.int 11)) (gCons (gC (.int 12)) (gCons (gC (.int 0)) gNil))))))))))) gNil))))
    (gSeq (gIfS (gB (gBin eqD (gVar 2) (gC (.int 0)))) (gSet 2 (gBin addD (gC (.int 1)) (gBlt absD (gCons (gCall sp__law_integer W R (gCons (gVar 0) (gCons (gVar 1) gNil))) gNil)))) gSkip)
    (gRet (gTup (gCons (gCall sp__law_integer W R (gCons (gVar 0) (gCons (gVar 1) gNil))) (gCons (gCall sp__law_integer W R (gCons (gVar 0) (gCons (gVar 1) gNil))) (gCons (gVar 2) gNil)))))))
def g_reduced (W : WD) (R : Er → Prop) : GS :=
  (gSeq (gDrop (gCall sp_need_numbers W R (gCons (gTup (gCons (gVar 0) gNil)) gNil)))
    (gRet (gCall sp_normal W R (gCons (gBin ixD (gVar 0) (gC (.int 0))) (gCons (gBin ixD (gVar 0) (gC (.int 1))) (gCons (gBin ixD (gVar 0) (gC (.int 2))) gNil))))))
def g_plus (W : WD) (R : Er → Prop) : GS :=
  (gSeq (gDrop (gCall sp_need_numbers W R (gCons (gTup (gCons (gVar 0) (gCons (gVar 1) gNil))) gNil)))
    (gRet (gCall sp_added W R (gCons (gVar 0) (gCons (gVar 1) gNil)))))
def g_minus (W : WD) (R : Er → Prop) : GS :=
  (gSeq (gDrop (gCall sp_need_numbers W R (gCons (gTup (gCons (gVar 0) (gCons (gVar 1) gNil))) gNil)))
    (gRet (gCall sp_taken W R (gCons (gVar 0) (gCons (gVar 1) gNil)))))
def g_times (W : WD) (R : Er → Prop) : GS :=
  (gSeq (gDrop (gCall sp_need_numbers W R (gCons (gTup (gCons (gVar 0) (gCons (gVar 1) gNil))) gNil)))
    (gRet (gCall sp_multiplied W R (gCons (gVar 0) (gCons (gVar 1) gNil)))))
def g_quotient (W : WD) (R : Er → Prop) : GS :=
  (gSeq (gDrop (gCall sp_need_numbers W R (gCons (gTup (gCons (gVar 0) (gCons (gVar 1) gNil))) gNil)))
    (gSeq (gIfS (gAndT (gB (gBin eqD (gBin ixD (gVar 1) (gC (.int 0))) (gC (.int 0)))) (gB (gBin eqD (gBin ixD (gVar 1) (gC (.int 1))) (gC (.int 0))))) (gRaise0 "DividedByZero" R) gSkip)
    (gRet (gCall sp_divided W R (gCons (gVar 0) (gCons (gVar 1) gNil))))))
def g_conjugate (W : WD) (R : Er → Prop) : GS :=
  (gSeq (gDrop (gCall sp_need_numbers W R (gCons (gTup (gCons (gVar 0) gNil)) gNil)))
    (gRet (gCall sp_normal W R (gCons (gBin addD (gBin ixD (gVar 0) (gC (.int 0))) (gBin ixD (gVar 0) (gC (.int 1)))) (gCons (gUn negD (gBin ixD (gVar 0) (gC (.int 1)))) (gCons (gBin ixD (gVar 0) (gC (.int 2))) gNil))))))
def g__law_other (W : WD) (R : Er → Prop) : GS :=
  (gSeq (gPar [3, 4] (gCons (gCall sp__law_draw W R (gCons (gVar 0) (gCons (gC (.int 9)) gNil))) (gCons (gBin addD (gC (.int 1)) (gCall sp__law_draw W R (gCons (gVar 0) (gCons (gC (.int 9)) gNil)))) gNil)))
    (gSeq (gIfS (gB (gBin eqD (gVar 3) (gC (.int 0)))) (gRet (gTup (gCons (gBin mulD (gVar 4) (gBin ixD (gVar 1) (gC (.int 0)))) (gCons (gBin mulD (gVar 4) (gBin ixD (gVar 1) (gC (.int 1)))) (gCons (gBin mulD (gVar 4) (gBin ixD (gVar 1) (gC (.int 2)))) gNil))))) gSkip)
    (gSeq (gIfS (gB (gBin eqD (gVar 3) (gC (.int 1)))) (gRet (gTup (gCons (gBin mulD (gUn negD (gVar 4)) (gBin ixD (gVar 1) (gC (.int 0)))) (gCons (gBin mulD (gUn negD (gVar 4)) (gBin ixD (gVar 1) (gC (.int 1)))) (gCons (gBin mulD (gVar 4) (gBin ixD (gVar 1) (gC (.int 2)))) gNil))))) gSkip)
    (gSeq (gIfS (gB (gBin eqD (gVar 3) (gC (.int 2)))) (gRet (gCall sp__law_conjugate W R (gCons (gVar 1) gNil))) gSkip)
    (gSeq (gIfS (gB (gBin eqD (gVar 3) (gC (.int 3)))) (gRet (gTup (gCons (gC (.int 0)) (gCons (gC (.int 0)) (gCons (gVar 4) gNil))))) gSkip)
    (gSeq (gIfS (gB (gBin eqD (gVar 3) (gC (.int 4)))) (gRet (gTup (gCons (gBin ixD (gVar 1) (gC (.int 1))) (gCons (gBin ixD (gVar 1) (gC (.int 0))) (gCons (gBin ixD (gVar 1) (gC (.int 2))) gNil))))) gSkip)
    (gRet (gCall sp__law_golden W R (gCons (gVar 0) (gCons (gVar 2) gNil))))))))))
def g__law_divided (W : WD) (R : Er → Prop) : GS :=
  (gSeq (gTry clsM 4 R (fun R => (gSet 3 (gIf (gTru (gVar 2)) (gCallK sp_quotient 0 2 [1, 0] W R gNil (gCons (gVar 1) (gCons (gVar 0) gNil))) (gCall sp_quotient W R (gCons (gVar 0) (gCons (gVar 1) gNil)))))) [⟨"DividedByZero", none, fun er a => (gRet (gC (.str "zero")))⟩])
    (gRet (gVar 3)))
def g__law_is_chain_right (W : WD) (R : Er → Prop) : GS :=
  (gSeq (gSet 1 (gCall sp__law_golden W R (gCons (gVar 0) (gCons (gC (.int 1)) gNil))))
    (gSeq (gPar [2, 3, 4] (gCons (gCall sp__law_least W R (gCons (gBin ixD (gVar 1) (gC (.int 0))) (gCons (gBin ixD (gVar 1) (gC (.int 1))) (gCons (gBin ixD (gVar 1) (gC (.int 2))) gNil)))) (gCons (gVar 1) (gCons (gCall sp__law_least W R (gCons (gBin ixD (gVar 1) (gC (.int 0))) (gCons (gBin ixD (gVar 1) (gC (.int 1))) (gCons (gBin ixD (gVar 1) (gC (.int 2))) gNil)))) gNil))))
    (gSeq (gFor (gRng1 (gCons (gC (.int 7)) gNil)) (ggName 5) (gSeq (gPar [6, 7] (gCons (gCall sp__law_draw W R (gCons (gVar 0) (gCons (gC (.int 6)) gNil))) (gCons (gCall sp__law_golden W R (gCons (gVar 0) (gCons (gC (.int 1)) gNil))) gNil)))
    (gSeq (gPar [8, 9] (gCons (gVar 1) (gCons (gVar 2) gNil)))
    (gSeq (gIfS (gB (gBin eqD (gVar 6) (gC (.int 0)))) (gPar [1, 2] (gCons (gCall sp_plus W R (gCons (gVar 1) (gCons (gVar 7) gNil))) (gCons (gCall sp__law_plus W R (gCons (gVar 2) (gCons (gVar 7) gNil))) gNil))) (gIfS (gB (gBin eqD (gVar 6) (gC (.int 1)))) (gPar [1, 2] (gCons (gCall sp_minus W R (gCons (gVar 7) (gCons (gVar 1) gNil))) (gCons (gCall sp__law_plus W R (gCons (gVar 7) (gCons (gCall sp__law_opposite W R (gCons (gVar 2) gNil)) gNil))) gNil))) (gIfS (gB (gBin eqD (gVar 6) (gC (.int 2)))) (gPar [1, 2] (gCons (gCall sp_times W R (gCons (gVar 1) (gCons (gVar 7) gNil))) (gCons (gCall sp__law_times W R (gCons (gVar 2) (gCons (gVar 7) gNil))) gNil))) (gIfS (gAndT (gB (gBin eqD (gVar 6) (gC (.int 3)))) (gOrT (gB (gBin neD (gBin ixD (gVar 7) (gC (.int 0))) (gC (.int 0)))) (gB (gBin neD (gBin ixD (gVar 7) (gC (.int 1))) (gC (.int 0)))))) (gPar [1, 2] (gCons (gCall sp_quotient W R (gCons (gVar 1) (gCons (gVar 7) gNil))) (gCons (gCall sp__law_quotient W R (gCons (gVar 2) (gCons (gVar 7) gNil))) gNil))) (gIfS (gB (gBin eqD (gVar 6) (gC (.int 4)))) (gPar [1, 2] (gCons (gCall sp_plus W R (gCons (gCall sp_conjugate W R (gCons (gVar 1) gNil)) (gCons (gVar 3) gNil))) (gCons (gCall sp__law_plus W R (gCons (gCall sp__law_conjugate W R (gCons (gVar 2) gNil)) (gCons (gVar 4) gNil))) gNil))) (gPar [1, 2] (gCons (gCall sp_times W R (gCons (gVar 3) (gCons (gVar 1) gNil))) (gCons (gCall sp__law_times W R (gCons (gVar 4) (gCons (gVar 2) gNil))) gNil))))))))
    (gSeq (gPar [3, 4] (gCons (gVar 8) (gCons (gVar 9) gNil)))
    (gIfS (gNotT (gTru (gCall sp__law_same W R (gCons (gVar 1) (gCons (gVar 2) gNil))))) (gRet (gC (.bl false))) gSkip))))))
    (gRet (gC (.bl true))))))
def g__law_are_right (W : WD) (R : Er → Prop) : GS :=
  (gSeq (gSet 3 (gAnd (gBin eqD (gBin ixD (gVar 2) (gC (.int 0))) (gC (.int 0))) (gBin eqD (gBin ixD (gVar 2) (gC (.int 1))) (gC (.int 0)))))
    (gSeq (gSet 4 (gFrz (gLst (gCons (gCall sp__law_least W R (gCons (gBin ixD (gVar 1) (gC (.int 0))) (gCons (gBin ixD (gVar 1) (gC (.int 1))) (gCons (gBin ixD (gVar 1) (gC (.int 2))) gNil)))) (gCons (gCall sp__law_plus W R (gCons (gVar 1) (gCons (gVar 2) gNil))) (gCons (gCall sp__law_plus W R (gCons (gVar 1) (gCons (gCall sp__law_opposite W R (gCons (gVar 2) gNil)) gNil))) (gCons (gCall sp__law_times W R (gCons (gVar 1) (gCons (gVar 2) gNil))) gNil)))))))
    (gSeq (gSet 4 (gBin addD (gVar 4) (gFrz (gLst (gCons (gIf (gTru (gVar 3)) (gC (.str "zero")) (gCall sp__law_quotient W R (gCons (gVar 1) (gCons (gVar 2) gNil)))) (gCons (gCall sp__law_conjugate W R (gCons (gVar 1) gNil)) gNil))))))
    (gSeq (gSet 5 (gBin eqD (gCall sp__law_draw W R (gCons (gVar 0) (gCons (gC (.int 2)) gNil))) (gC (.int 0))))
    (gSeq (gIfS (gTru (gVar 5)) (gSet 6 (gFrz (gLst (gCons (gCallK sp_reduced 0 1 [0] W R gNil (gCons (gVar 1) gNil)) (gCons (gCallK sp_plus 0 2 [1, 0] W R gNil (gCons (gVar 2) (gCons (gVar 1) gNil))) (gCons (gCallK sp_minus 0 2 [1, 0] W R gNil (gCons (gVar 2) (gCons (gVar 1) gNil))) (gCons (gCallK sp_times 0 2 [1, 0] W R gNil (gCons (gVar 2) (gCons (gVar 1) gNil))) gNil))))))) (gSet 6 (gFrz (gLst (gCons (gCall sp_reduced W R (gCons (gVar 1) gNil)) (gCons (gCall sp_plus W R (gCons (gVar 1) (gCons (gVar 2) gNil))) (gCons (gCall sp_minus W R (gCons (gVar 1) (gCons (gVar 2) gNil))) (gCons (gCall sp_times W R (gCons (gVar 1) (gCons (gVar 2) gNil))) gNil))))))))
    (gSeq (gSet 6 (gBin addD (gVar 6) (gFrz (gLst (gCons (gCall sp__law_divided W R (gCons (gVar 1) (gCons (gVar 2) (gCons (gVar 5) gNil)))) (gCons (gIf (gTru (gVar 5)) (gCallK sp_conjugate 0 1 [0] W R gNil (gCons (gVar 1) gNil)) (gCall sp_conjugate W R (gCons (gVar 1) gNil))) gNil))))))
    (gRet (gAnd (gCall sp__law_same W R (gCons (gVar 6) (gCons (gVar 4) gNil))) (gCall sp__law_same W R (gCons (gFrz (gLc (gIter (gTup (gCons (gVar 1) (gCons (gVar 2) (gCons (gBin ixD (gVar 6) (gC (.int 0))) (gCons (gBin ixD (gVar 6) (gC (.int 3))) gNil)))))) (ggName 7) gYes (gCall sp_is_golden W (fun _ => False) (gCons (gVar 7) gNil)) [7])) (gCons (gBin mulD (gFrz (gLst (gCons (gC (.bl true)) gNil))) (gC (.int 4))) gNil)))))))))))
def g_law (W : WD) (R : Er → Prop) : GS :=
  (gSeq (gFor (gRng1 (gCons (gC (.int 5)) gNil)) (ggName 2) (gSeq (gSet 3 (gCall sp__law_golden W R (gCons (gVar 1) (gCons (gC (.int 5)) gNil))))
    (gIfS (gNotT (gTru (gCall sp__law_are_right W R (gCons (gVar 1) (gCons (gVar 3) (gCons (gCall sp__law_other W R (gCons (gVar 1) (gCons (gVar 3) (gCons (gC (.int 5)) gNil)))) gNil)))))) (gRet (gC (.bl false))) gSkip)))
    (gSeq (gIfS (gB (gBin eqD (gCall sp__law_draw W R (gCons (gVar 1) (gCons (gC (.int 8)) gNil))) (gC (.int 0)))) (gSeq (gSet 3 (gCall sp__law_golden W R (gCons (gVar 1) (gCons (gC (.int 166)) gNil))))
    (gIfS (gNotT (gTru (gCall sp__law_are_right W R (gCons (gVar 1) (gCons (gVar 3) (gCons (gCall sp__law_other W R (gCons (gVar 1) (gCons (gVar 3) (gCons (gC (.int 166)) gNil)))) gNil)))))) (gRet (gC (.bl false))) gSkip)) gSkip)
    (gSeq (gPar [3, 4, 5] (gCons (gCall sp__law_golden W R (gCons (gVar 1) (gCons (gC (.int 2)) gNil))) (gCons (gCall sp__law_golden W R (gCons (gVar 1) (gCons (gC (.int 2)) gNil))) (gCons (gCall sp__law_golden W R (gCons (gVar 1) (gCons (gC (.int 2)) gNil))) gNil))))
    (gSeq (gIfS (gNotT (gTru (gCall sp__law_same W R (gCons (gCall sp_conjugate W R (gCons (gCall sp_plus W R (gCons (gVar 3) (gCons (gVar 4) gNil))) gNil)) (gCons (gCall sp_plus W R (gCons (gCall sp_conjugate W R (gCons (gVar 3) gNil)) (gCons (gCall sp_conjugate W R (gCons (gVar 4) gNil)) gNil))) gNil))))) (gRet (gC (.bl false))) gSkip)
    (gSeq (gIfS (gNotT (gTru (gCall sp__law_same W R (gCons (gCall sp_conjugate W R (gCons (gCall sp_times W R (gCons (gVar 3) (gCons (gVar 4) gNil))) gNil)) (gCons (gCall sp_times W R (gCons (gCall sp_conjugate W R (gCons (gVar 3) gNil)) (gCons (gCall sp_conjugate W R (gCons (gVar 4) gNil)) gNil))) gNil))))) (gRet (gC (.bl false))) gSkip)
    (gSeq (gIfS (gNotT (gTru (gCall sp__law_same W R (gCons (gCall sp_times W R (gCons (gVar 3) (gCons (gCall sp_plus W R (gCons (gVar 4) (gCons (gVar 5) gNil))) gNil))) (gCons (gCall sp__law_plus W R (gCons (gCall sp__law_times W R (gCons (gVar 3) (gCons (gVar 4) gNil))) (gCons (gCall sp__law_times W R (gCons (gVar 3) (gCons (gVar 5) gNil))) gNil))) gNil))))) (gRet (gC (.bl false))) gSkip)
    (gRet (gCall sp__law_is_chain_right W R (gCons (gVar 1) gNil)))))))))

theorem len_normal : ∀ W ds Q R, sp_normal W ds Q R → ds.length = 3 := by
  rintro W ds Q R ⟨a, b, d, rfl, _⟩
  rfl
theorem law_normal : ∀ W ds Q R, sp_normal W ds Q R → g_normal W R (endsD Q) (startD 4 ds) := by
  rintro W ds Q R ⟨a, b, d, rfl, ha, hb, hd, h0, q⟩
  have pa : ∀ j, DivPl a j := fun j => .inr (by have := ha.log; omega)
  have pb : ∀ j, DivPl b j := fun j => .inr (by have := hb.log; omega)
  have pd : ∀ j, DivPl d j := fun j => .inr (by have := hd.log; omega)
  have hn := cdv_ne (a := a) (b := b) h0
  unfold red cdv at q
  unfold cdv at hn
  by_cases h : d < 0
  · rw [if_pos h] at q hn
    simp [g_normal, startD, endsD, gcdD, h]
    exact ⟨by simpa using hn, pa _, by simpa using hn, pb _, by simpa using hn, pd _, by simpa using q⟩
  · rw [if_neg h] at q hn
    simp [g_normal, startD, endsD, gcdD, h]
    exact ⟨by simpa using hn, pa _, by simpa using hn, pb _, by simpa using hn, pd _, by simpa using q⟩
theorem len__law_common : ∀ W ds Q R, sp__law_common W ds Q R → ds.length = 2 := by
  rintro W ds Q R ⟨a, b, rfl, _⟩
  rfl
theorem law__law_common : ∀ W ds Q R, sp__law_common W ds Q R → g__law_common W R (endsD Q) (startD 4 ds) := by
  rintro W ds Q R ⟨a, b, rfl, q⟩
  simp [g__law_common, startD, endsD, absD]
  refine ⟨fun m σ => ∃ x y : Int, σ = [.d (.int a), .d (.int b), .d (.int x), .d (.int y)] ∧ 0 ≤ x ∧ 0 ≤ y ∧ m = y.toNat ∧ Nat.gcd x.natAbs y.natAbs = Nat.gcd a.natAbs b.natAbs, ⟨_, _, _, rfl, by omega, by omega, rfl, by
    have k : ∀ z : Int, (if z < 0 then -z else z).natAbs = z.natAbs := fun z => by split <;> omega
    rw [k, k]⟩, ?_⟩
  rintro m σ ⟨x, y, rfl, hx, hy, rfl, e⟩
  simp
  by_cases h : y = 0
  · rw [if_pos h]
    subst h
    have e2 : x = ((Nat.gcd a.natAbs b.natAbs : Nat) : Int) := by
      rw [← e]
      simp
      omega
    rw [e2]
    exact q
  · rw [if_neg h]
    have hy2 : 0 < y := by omega
    exact ⟨hy2, (x % y).toNat, by rw [Int.toNat_of_nonneg (Int.emod_nonneg _ h)]; exact Int.emod_lt_of_pos _ hy2, y, x % y, ⟨rfl, rfl⟩, hy, Int.emod_nonneg _ h, rfl, (gcd_step hx hy2).trans e⟩
theorem len_is_integer : ∀ W ds Q R, sp_is_integer W ds Q R → ds.length = 1 := by
  rintro W ds Q R ⟨x, rfl, _⟩
  rfl
theorem law_is_integer : ∀ W ds Q R, sp_is_integer W ds Q R → g_is_integer W R (endsD Q) (startD 1 ds) := by
  rintro W ds Q R ⟨x, rfl, h, q⟩
  have k1 : knownT "int" = true := by decide
  have k2 : knownT "bool" = true := by decide
  simp [g_is_integer, startD, h, k1, k2]
  cases x <;> simp_all [tyD, isiB, isTb, isI]
theorem len_is_number : ∀ W ds Q R, sp_is_number W ds Q R → ds.length = 1 := by
  rintro W ds Q R ⟨a, b, m, rfl, _⟩
  rfl
theorem law_is_number : ∀ W ds Q R, sp_is_number W ds Q R → g_is_number W R (endsD Q) (startD 1 ds) := by
  rintro W ds Q R ⟨a, b, m, rfl, h, q⟩
  have k1 : knownT "tuple" = true := by decide
  have k2 : isiB "tuple" (tri a b m) = true := by rfl
  simp [g_is_number, startD, k1, k2, tyD, sp_is_integer, isI, h, q]
theorem len_is_golden : ∀ W ds Q R, sp_is_golden W ds Q R → ds.length = 1 := len_is_number
theorem law_is_golden : ∀ W ds Q R, sp_is_golden W ds Q R → g_is_golden W R (endsD Q) (startD 1 ds) := by
  rintro W ds Q R ⟨a, b, m, rfl, h, q⟩
  simp [g_is_golden, startD]
  exact ⟨a, b, m, rfl, h, q⟩
theorem len_negative : ∀ W ds Q R, sp_negative W ds Q R → ds.length = 1 := by
  rintro W ds Q R ⟨a, b, m, rfl, _⟩
  rfl
theorem law_negative : ∀ W ds Q R, sp_negative W ds Q R → g_negative W R (endsD Q) (startD 1 ds) := by
  rintro W ds Q R ⟨a, b, m, rfl, q⟩
  simp [g_negative, startD, q]
theorem len__law_opposite : ∀ W ds Q R, sp__law_opposite W ds Q R → ds.length = 1 := len_negative
theorem law__law_opposite : ∀ W ds Q R, sp__law_opposite W ds Q R → g__law_opposite W R (endsD Q) (startD 1 ds) := by
  rintro W ds Q R ⟨a, b, m, rfl, q⟩
  simp [g__law_opposite, startD, q]
theorem len__law_same : ∀ W ds Q R, sp__law_same W ds Q R → ds.length = 2 := by
  rintro W ds Q R ⟨x, rfl, _⟩
  rfl
theorem law__law_same : ∀ W ds Q R, sp__law_same W ds Q R → g__law_same W R (endsD Q) (startD 2 ds) := by
  rintro W ds Q R ⟨x, rfl, h, q⟩
  simp [g__law_same, startD, h.1, h.2.1, h.len, q]
theorem len_need_numbers : ∀ W ds Q R, sp_need_numbers W ds Q R → ds.length = 1 := by
  rintro W ds Q R ⟨xs, rfl, _⟩
  rfl
theorem need_loop (W : WD) (R : Er → Prop) (E : Ed) (t : SV) (hE : ∀ v, E.nx [t, v]) : ∀ (xs : List D) (v : SV), (∀ x ∈ xs, ∃ a b m, x = tri a b m ∧ 1 ≤ m) → forG (ggName 1) (gIfS (gNotT (gTru (gCall sp_is_number W R (gCons (gVar 1) gNil)))) gNever gSkip) xs E [t, v]
  | [], v, _ => hE v
  | x :: xs, v, h => by
    obtain ⟨a, b, m, rfl, hm⟩ := h x List.mem_cons_self
    have ih := need_loop W R E t hE xs (.d (tri a b m)) fun y hy => h y (List.mem_cons_of_mem _ hy)
    simp [forG]
    exact ⟨a, b, m, rfl, hm, rfl, ih⟩
theorem law_need_numbers : ∀ W ds Q R, sp_need_numbers W ds Q R → g_need_numbers W R (endsD Q) (startD 2 ds) := by
  rintro W ds Q R ⟨xs, rfl, h, q⟩
  simp [g_need_numbers, startD]
  exact need_loop W R _ _ (fun _ => q) xs _ h
theorem need_one {a b m : Int} (h : 1 ≤ m) {Q : D → Prop} {W : WD} {R : Er → Prop} (q : Q .non) : sp_need_numbers W [.tup [tri a b m]] Q R :=
  ⟨_, rfl, fun x hx => ⟨a, b, m, List.mem_singleton.mp hx, h⟩, q⟩
theorem need_two {a b m c d n : Int} (h : 1 ≤ m) (k : 1 ≤ n) {Q : D → Prop} {W : WD} {R : Er → Prop} (q : Q .non) : sp_need_numbers W [.tup [tri a b m, tri c d n]] Q R :=
  ⟨_, rfl, fun x hx => by
    rcases List.mem_cons.mp hx with e | e
    · exact ⟨a, b, m, e, h⟩
    · exact ⟨c, d, n, List.mem_singleton.mp e, k⟩, q⟩
theorem len__law_least : ∀ W ds Q R, sp__law_least W ds Q R → ds.length = 3 := by
  rintro W ds Q R ⟨a, b, d, rfl, _⟩
  rfl
theorem law__law_least : ∀ W ds Q R, sp__law_least W ds Q R → g__law_least W R (endsD Q) (startD 4 ds) := by
  rintro W ds Q R ⟨a, b, d, rfl, ha, hb, hd, h0, q⟩
  have pa : ∀ j, DivPl a j := fun j => .inr (by have := ha.log; omega)
  have pb : ∀ j, DivPl b j := fun j => .inr (by have := hb.log; omega)
  have pd : ∀ j, DivPl d j := fun j => .inr (by have := hd.log; omega)
  have hn := cdv_ne (a := a) (b := b) (d := d) (by omega)
  unfold red cdv at q
  unfold cdv at hn
  rw [if_neg (by omega)] at q hn
  simp [g__law_least, startD]
  refine ⟨a, b, rfl, _, d, rfl, ?_⟩
  simp
  exact ⟨by simpa using hn, pa _, by simpa using hn, pb _, by simpa using hn, pd _, by simpa using q⟩
theorem Num.up {n m : Nat} {a b d : Int} (h : Num n a b d) (e : n ≤ m) : Num m a b d := ⟨h.1.mono e, h.2.1.mono e, h.2.2.1.mono e, h.2.2.2⟩
theorem Num.ok {n m : Nat} {a b d c e f : Int} (h : Num n a b d) (k : Num m c e f) (l : n + m ≤ 20000) : MulOk a f ∧ MulOk c d ∧ MulOk b f ∧ MulOk e d ∧ MulOk d f ∧ MulOk a c ∧ MulOk b e ∧ MulOk a e ∧ MulOk b c :=
  ⟨h.1.ok k.2.2.1 (by omega), k.1.ok h.2.2.1 (by omega), h.2.1.ok k.2.2.1 (by omega), k.2.1.ok h.2.2.1 (by omega), h.2.2.1.ok k.2.2.1 (by omega), h.1.ok k.1 (by omega), h.2.1.ok k.2.1 (by omega), h.1.ok k.2.1 (by omega), h.2.1.ok k.1 (by omega)⟩
theorem add_sz {n m : Nat} {a b d c e f : Int} (h : Num n a b d) (k : Num m c e f) : Sz (n + m + 1) (a * f + c * d) ∧ Sz (n + m + 1) (b * f + e * d) ∧ Sz (n + m + 1) (d * f) ∧ 1 ≤ d * f :=
  ⟨(h.1.mul k.2.2.1).add ((k.1.mul h.2.2.1).mono (by omega)), (h.2.1.mul k.2.2.1).add ((k.2.1.mul h.2.2.1).mono (by omega)), (h.2.2.1.mul k.2.2.1).mono (by omega), Int.mul_pos h.2.2.2 k.2.2.2⟩
theorem mul_sz {n m : Nat} {a b d c e f : Int} (h : Num n a b d) (k : Num m c e f) : Sz (n + m + 2) (a * c + b * e) ∧ Sz (n + m + 2) (a * e + b * c + b * e) ∧ Sz (n + m + 2) (d * f) ∧ 1 ≤ d * f :=
  ⟨((h.1.mul k.1).add (h.2.1.mul k.2.1)).mono (by omega), ((h.1.mul k.2.1).add (h.2.1.mul k.1)).add ((h.2.1.mul k.2.1).mono (by omega)), (h.2.2.1.mul k.2.2.1).mono (by omega), Int.mul_pos h.2.2.2 k.2.2.2⟩
theorem len_added : ∀ W ds Q R, sp_added W ds Q R → ds.length = 2 := by
  rintro W ds Q R ⟨n, m, a, b, d, c, e, f, rfl, _⟩
  rfl
theorem law_added : ∀ W ds Q R, sp_added W ds Q R → g_added W R (endsD Q) (startD 3 ds) := by
  rintro W ds Q R ⟨n, m, a, b, d, c, e, f, rfl, h, k, l, q⟩
  obtain ⟨o1, o2, o3, o4, o5, _⟩ := h.ok k (by omega)
  obtain ⟨z1, z2, z3, z4⟩ := add_sz h k
  simp [g_added, startD, o1, o2, o3, o4, o5]
  exact ⟨_, _, _, rfl, z1.mono (by omega), z2.mono (by omega), z3.mono (by omega), by omega, q⟩
theorem len__law_plus : ∀ W ds Q R, sp__law_plus W ds Q R → ds.length = 2 := len_added
theorem law__law_plus : ∀ W ds Q R, sp__law_plus W ds Q R → g__law_plus W R (endsD Q) (startD 2 ds) := by
  rintro W ds Q R ⟨n, m, a, b, d, c, e, f, rfl, h, k, l, q⟩
  obtain ⟨o1, o2, o3, o4, o5, _⟩ := h.ok k (by omega)
  obtain ⟨z1, z2, z3, z4⟩ := add_sz h k
  simp [g__law_plus, startD, o1, o2, o3, o4, o5]
  exact ⟨_, _, _, rfl, z1.mono (by omega), z2.mono (by omega), z3.mono (by omega), z4, q⟩
theorem Num.neg {n : Nat} {a b d : Int} (h : Num n a b d) : Num n (-a) (-b) d := ⟨h.1.neg, h.2.1.neg, h.2.2⟩
theorem len_taken : ∀ W ds Q R, sp_taken W ds Q R → ds.length = 2 := by
  rintro W ds Q R ⟨n, m, a, b, d, c, e, f, rfl, _⟩
  rfl
theorem law_taken : ∀ W ds Q R, sp_taken W ds Q R → g_taken W R (endsD Q) (startD 2 ds) := by
  rintro W ds Q R ⟨n, m, a, b, d, c, e, f, rfl, h, k, l, q⟩
  simp [g_taken, startD]
  exact ⟨c, e, f, rfl, n, m, a, b, d, -c, -e, f, rfl, h, k.neg, l, q⟩
theorem len_multiplied : ∀ W ds Q R, sp_multiplied W ds Q R → ds.length = 2 := by
  rintro W ds Q R ⟨n, m, a, b, d, c, e, f, rfl, _⟩
  rfl
theorem law_multiplied : ∀ W ds Q R, sp_multiplied W ds Q R → g_multiplied W R (endsD Q) (startD 6 ds) := by
  rintro W ds Q R ⟨n, m, a, b, d, c, e, f, rfl, h, k, l, q⟩
  obtain ⟨_, _, _, _, o5, o6, o7, o8, o9⟩ := h.ok k (by omega)
  obtain ⟨z1, z2, z3, z4⟩ := mul_sz h k
  simp [g_multiplied, startD, o5, o6, o7, o8, o9]
  exact ⟨_, _, _, rfl, z1.mono (by omega), z2.mono (by omega), z3.mono (by omega), by omega, q⟩
theorem len__law_times : ∀ W ds Q R, sp__law_times W ds Q R → ds.length = 2 := len_multiplied
theorem law__law_times : ∀ W ds Q R, sp__law_times W ds Q R → g__law_times W R (endsD Q) (startD 8 ds) := by
  rintro W ds Q R ⟨n, m, a, b, d, c, e, f, rfl, h, k, l, q⟩
  obtain ⟨_, _, _, _, o5, o6, o7, o8, o9⟩ := h.ok k (by omega)
  obtain ⟨z1, z2, z3, z4⟩ := mul_sz h k
  simp [g__law_times, startD, o5, o6, o7, o8, o9]
  exact ⟨_, _, _, rfl, z1.mono (by omega), z2.mono (by omega), z3.mono (by omega), z4, q⟩
theorem con_sz {n : Nat} {a b d : Int} (h : Num n a b d) : Sz (n + 1) (a + b) ∧ Sz (n + 1) (-b) ∧ Sz (n + 1) d := ⟨h.1.add h.2.1, h.2.1.neg.mono (by omega), h.2.2.1.mono (by omega)⟩
theorem len__law_conjugate : ∀ W ds Q R, sp__law_conjugate W ds Q R → ds.length = 1 := by
  rintro W ds Q R ⟨n, a, b, d, rfl, _⟩
  rfl
theorem law__law_conjugate : ∀ W ds Q R, sp__law_conjugate W ds Q R → g__law_conjugate W R (endsD Q) (startD 1 ds) := by
  rintro W ds Q R ⟨n, a, b, d, rfl, h, l, q⟩
  obtain ⟨z1, z2, z3⟩ := con_sz h
  simp [g__law_conjugate, startD]
  exact ⟨_, _, _, rfl, z1.mono (by omega), z2.mono (by omega), z3.mono (by omega), h.2.2.2, q⟩
theorem len_reduced : ∀ W ds Q R, sp_reduced W ds Q R → ds.length = 1 := by
  rintro W ds Q R ⟨n, a, b, d, rfl, _⟩
  rfl
theorem law_reduced : ∀ W ds Q R, sp_reduced W ds Q R → g_reduced W R (endsD Q) (startD 1 ds) := by
  rintro W ds Q R ⟨n, a, b, d, rfl, h, l, q⟩
  have h1 := h.2.2.2
  simp [g_reduced, startD]
  refine need_one h1 ?_
  exact ⟨_, _, _, rfl, h.1.mono (by omega), h.2.1.mono (by omega), h.2.2.1.mono (by omega), by omega, q⟩
theorem len_conjugate : ∀ W ds Q R, sp_conjugate W ds Q R → ds.length = 1 := len__law_conjugate
theorem law_conjugate : ∀ W ds Q R, sp_conjugate W ds Q R → g_conjugate W R (endsD Q) (startD 1 ds) := by
  rintro W ds Q R ⟨n, a, b, d, rfl, h, l, q⟩
  obtain ⟨z1, z2, z3⟩ := con_sz h
  have h1 := h.2.2.2
  simp [g_conjugate, startD]
  refine need_one h1 ?_
  exact ⟨_, _, _, rfl, z1.mono (by omega), z2.mono (by omega), z3.mono (by omega), by omega, q⟩
theorem len_plus : ∀ W ds Q R, sp_plus W ds Q R → ds.length = 2 := len_added
theorem law_plus : ∀ W ds Q R, sp_plus W ds Q R → g_plus W R (endsD Q) (startD 2 ds) := by
  rintro W ds Q R ⟨n, m, a, b, d, c, e, f, rfl, h, k, l, q⟩
  simp [g_plus, startD]
  exact need_two h.2.2.2 k.2.2.2 ⟨n, m, a, b, d, c, e, f, rfl, h, k, l, q⟩
theorem len_minus : ∀ W ds Q R, sp_minus W ds Q R → ds.length = 2 := len_taken
theorem law_minus : ∀ W ds Q R, sp_minus W ds Q R → g_minus W R (endsD Q) (startD 2 ds) := by
  rintro W ds Q R ⟨n, m, a, b, d, c, e, f, rfl, h, k, l, q⟩
  simp [g_minus, startD]
  exact need_two h.2.2.2 k.2.2.2 ⟨n, m, a, b, d, c, e, f, rfl, h, k, l, q⟩
theorem len_times : ∀ W ds Q R, sp_times W ds Q R → ds.length = 2 := len_multiplied
theorem law_times : ∀ W ds Q R, sp_times W ds Q R → g_times W R (endsD Q) (startD 2 ds) := by
  rintro W ds Q R ⟨n, m, a, b, d, c, e, f, rfl, h, k, l, q⟩
  simp [g_times, startD]
  exact need_two h.2.2.2 k.2.2.2 ⟨n, m, a, b, d, c, e, f, rfl, h, k, l, q⟩
theorem Num.one {n : Nat} {a b d : Int} (h : Num n a b d) : Num n a b 1 := ⟨h.1, h.2.1, by
  have h1 : d.natAbs < 2 ^ n := h.2.2.1
  have h2 := h.2.2.2
  show (1 : Int).natAbs < 2 ^ n
  have : (1 : Int).natAbs = 1 := rfl
  omega, by decide⟩
theorem quo_sz {n m : Nat} {a b d c e f : Int} (h : Num n a b d) (k : Num m c e f) : Sz (n + m + 2) (a * (c + e) - b * e) ∧ Sz (n + m + 2) (b * c - a * e) ∧ Sz (m + m + 2) (c * c + c * e - e * e) ∧ Sz (m + 1) (c + e) :=
  ⟨((h.1.mul (k.1.add k.2.1)).sub ((h.2.1.mul k.2.1).mono (by omega))).mono (by omega), ((h.2.1.mul k.1).sub (h.1.mul k.2.1)).mono (by omega), ((k.1.mul k.1).add (k.1.mul k.2.1)).sub ((k.2.1.mul k.2.1).mono (by omega)), k.1.add k.2.1⟩
theorem len_divided : ∀ W ds Q R, sp_divided W ds Q R → ds.length = 2 := by
  rintro W ds Q R ⟨n, m, a, b, d, c, e, f, rfl, _⟩
  rfl
theorem law_divided : ∀ W ds Q R, sp_divided W ds Q R → g_divided W R (endsD Q) (startD 6 ds) := by
  rintro W ds Q R ⟨n, m, a, b, d, c, e, f, rfl, h, k, l, h0, q⟩
  obtain ⟨z1, z2, z3, z4⟩ := quo_sz h k
  have hN := norm_ne h0
  have hd := h.2.2.2
  have e1 : a * (c + e) + b * -e = a * (c + e) - b * e := by rw [Int.mul_neg]; rfl
  have e2 : a * -e + b * (c + e) + b * -e = b * c - a * e := by
    rw [Int.mul_neg, Int.mul_neg, Int.mul_add]
    omega
  have o1 : MulOk c c := k.1.ok k.1 (by omega)
  have o2 : MulOk c e := k.1.ok k.2.1 (by omega)
  have o3 : MulOk e e := k.2.1.ok k.2.1 (by omega)
  have o4 : MulOk (a * (c + e) - b * e) f := z1.ok k.2.2.1 (by omega)
  have o5 : MulOk (b * c - a * e) f := z2.ok k.2.2.1 (by omega)
  have o6 : MulOk (c * c + c * e - e * e) d := z3.ok h.2.2.1 (by omega)
  simp [g_divided, startD]
  refine ⟨n, m + 1, a, b, 1, c + e, -e, 1, rfl, h.one, ⟨z4, k.2.1.neg.mono (by omega), k.one.2.2.1.mono (by omega), by decide⟩, by omega, ?_⟩
  rw [e1, e2, Int.one_mul, red_one]
  simp [o1, o2, o3, o4, o5, o6]
  exact ⟨_, _, _, rfl, (z1.mul k.2.2.1).mono (by omega), (z2.mul k.2.2.1).mono (by omega), (z3.mul h.2.2.1).mono (by omega), Int.mul_ne_zero hN (by omega), q⟩
theorem sz_sign {s : Int} (h : s = 1 ∨ s = -1) : Sz 2 s := by rcases h with rfl | rfl <;> decide
theorem red_sign {s x y N f d : Int} (hs : s = 1 ∨ s = -1) (h0 : N * d ≠ 0) : red (s * f * x) (s * f * y) (s * N * d) = red (x * f) (y * f) (N * d) := by
  rcases hs with rfl | rfl
  · rw [Int.one_mul, Int.one_mul, Int.mul_comm f x, Int.mul_comm f y]
  · have e1 : ∀ u v : Int, -1 * u * v = -(v * u) := fun u v => by rw [Int.neg_mul, Int.one_mul, Int.neg_mul, Int.mul_comm]
    have e2 : -1 * N * d = -(N * d) := by rw [Int.neg_mul, Int.one_mul, Int.neg_mul]
    rw [e1, e1, e2, red_neg h0]
theorem len__law_quotient : ∀ W ds Q R, sp__law_quotient W ds Q R → ds.length = 2 := len_divided
theorem law__law_quotient : ∀ W ds Q R, sp__law_quotient W ds Q R → g__law_quotient W R (endsD Q) (startD 10 ds) := by
  rintro W ds Q R ⟨n, m, a, b, d, c, e, f, rfl, h, k, l, h0, q⟩
  obtain ⟨z1, z2, z3, z4⟩ := quo_sz h k
  have hN := norm_ne h0
  have hd := h.2.2.2
  obtain ⟨_, _, _, _, _, _, o7, o8, o9⟩ := h.ok k (by omega)
  have o1 : MulOk c c := k.1.ok k.1 (by omega)
  have o2 : MulOk c e := k.1.ok k.2.1 (by omega)
  have o3 : MulOk e e := k.2.1.ok k.2.1 (by omega)
  have o4 : MulOk a (c + e) := h.1.ok z4 (by omega)
  have main : ∀ s : Int, (s = 1 ∨ s = -1) → 1 ≤ s * (c * c + c * e - e * e) → MulOk s f ∧ MulOk (s * f) (a * (c + e) - b * e) ∧ MulOk (s * f) (b * c - a * e) ∧ MulOk s (c * c + c * e - e * e) ∧ MulOk (s * (c * c + c * e - e * e)) d ∧
      sp__law_least W [.int (s * f * (a * (c + e) - b * e)), .int (s * f * (b * c - a * e)), .int (s * (c * c + c * e - e * e) * d)] Q R := fun s hs hp => by
    have zs := sz_sign hs
    refine ⟨zs.ok k.2.2.1 (by omega), (zs.mul k.2.2.1).ok z1 (by omega), (zs.mul k.2.2.1).ok z2 (by omega), zs.ok z3 (by omega), (zs.mul z3).ok h.2.2.1 (by omega), _, _, _, rfl, ((zs.mul k.2.2.1).mul z1).mono (by omega), ((zs.mul k.2.2.1).mul z2).mono (by omega), ((zs.mul z3).mul h.2.2.1).mono (by omega), Int.mul_pos hp hd, ?_⟩
    rw [red_sign hs (Int.mul_ne_zero hN (by omega))]
    exact q
  simp [g__law_quotient, startD, o1, o2, o3]
  by_cases hp : e * e < c * c + c * e
  · have t := main 1 (.inl rfl) (by omega)
    simp [hp, o4, o7, o8, o9] at t ⊢
    obtain ⟨p1, p2, p3, p4, p5, p6⟩ := t
    simp [p1, p2, p3, p4, p5, p6]
  · have t := main (-1) (.inr rfl) (by omega)
    simp [hp, o4, o7, o8, o9] at t ⊢
    obtain ⟨p1, p2, p3, p4, p5, p6⟩ := t
    simp [p1, p2, p3, p4, p5, p6]
theorem len_quotient : ∀ W ds Q R, sp_quotient W ds Q R → ds.length = 2 := by
  rintro W ds Q R ⟨n, m, a, b, d, c, e, f, rfl, _⟩
  rfl
theorem law_quotient : ∀ W ds Q R, sp_quotient W ds Q R → g_quotient W R (endsD Q) (startD 2 ds) := by
  rintro W ds Q R ⟨n, m, a, b, d, c, e, f, rfl, h, k, l, r, q⟩
  simp [g_quotient, startD]
  refine need_two h.2.2.2 k.2.2.2 ?_
  by_cases hc : c = 0
  · by_cases he : e = 0
    · simp [hc, he]
      exact r ⟨hc, he⟩
    · simp [hc, he]
      exact ⟨n, m, a, b, d, 0, e, f, rfl, h, hc ▸ k, l, fun z => he z.2, hc ▸ q fun z => he z.2⟩
  · simp [hc]
    exact ⟨n, m, a, b, d, c, e, f, rfl, h, k, l, fun z => hc z.1, q fun z => hc z.1⟩
theorem len__law_pick : ∀ W ds Q R, sp__law_pick W ds Q R → ds.length = 2 := by
  rintro W ds Q R ⟨d, l, xs, _, rfl, _⟩
  rfl
theorem law__law_pick : ∀ W ds Q R, sp__law_pick W ds Q R → g__law_pick W R (endsD Q) (startD 2 ds) := by
  rintro W ds Q R ⟨d, l, xs, rfl, rfl, h1, h2, q⟩
  simp [g__law_pick, startD]
  refine ⟨d, l, _, rfl, rfl, by omega, by exact_mod_cast h2, fun r hr0 hr1 => ?_⟩
  have hr : r.toNat < xs.length := by omega
  refine ⟨xs[r.toNat], ?_, q _ (List.getElem_mem hr)⟩
  simp [atI, ixN, hr0, hr1, hr]
theorem dr {d l : Addr} {k : Int} {Q : D → Prop} {R : Er → Prop} (h1 : 0 < k) (h2 : k < 2 ^ 62) (q : ∀ r, 0 ≤ r → r < k → Q (.int r)) : sp__law_draw (some (d, l)) [dkD d, .int k] Q R := ⟨d, l, k, rfl, rfl, h1, h2, q⟩
theorem e62 : (2 : Int) ^ 62 = 4611686018427387904 := by decide
theorem Sz.small {i : Int} (h1 : -1000 ≤ i) (h2 : i ≤ 1000) : Sz 20 i := by
  show i.natAbs < 2 ^ 20
  omega
theorem sz_nat {n : Nat} (h : n ≤ 1000) : Sz 20 (n : Int) := Sz.small (by omega) (by omega)
theorem cat_nines (acc : Array Nat) : ∀ m : Nat, ((List.replicate m (Str.ofString "9").cps).foldl (· ++ ·) acc).toList = acc.toList ++ List.replicate m 57
  | 0 => by simp
  | m + 1 => by
    rw [List.replicate_succ, List.foldl_cons, cat_nines (acc ++ (Str.ofString "9").cps) m]
    have e : (Str.ofString "9").cps.toList = [57] := by decide +kernel
    rw [Array.toList_append, e, List.replicate_succ, List.append_assoc]
    rfl
theorem digits_lt : ∀ (cs : List Nat) (a : Nat), NumText.AllDigits cs → cs.foldl (fun acc c => acc * 10 + (c - 48)) a < (a + 1) * 10 ^ cs.length
  | [], a, _ => by simp
  | c :: cs, a, h => by
    have hc := h.head
    have ih := digits_lt cs (a * 10 + (c - 48)) h.tail
    rw [List.foldl_cons, List.length_cons]
    refine Nat.lt_of_lt_of_le ih ?_
    rw [Nat.pow_succ, Nat.mul_comm (10 ^ cs.length) 10, ← Nat.mul_assoc]
    exact Nat.mul_le_mul_right _ (by omega)
theorem nine_list {k : Nat} (hk : 1 ≤ k) : (Txt.mul (Str.ofString "9") (k : Int)).cps.toList = List.replicate k 57 := by
  unfold Txt.mul
  rw [if_neg (by omega)]
  split
  · rename_i h
    have e0 : (Str.ofString "9").length = 1 := by decide +kernel
    rw [e0] at h
    simp at h
    have : k = 1 := by omega
    subst this
    decide +kernel
  · rw [Int.toNat_natCast]
    show ((List.replicate k (Str.ofString "9").cps).foldl (· ++ ·) #[]).toList = _
    rw [cat_nines]
    simp
theorem nine_text {k : Nat} (hk : 1 ≤ k) (h : k ≤ 1020) : ∃ i : Int, intText? (Txt.mul (Str.ofString "9") (k : Int)) = some i ∧ (Txt.mul (Str.ofString "9") (k : Int)).length ≤ sizeLine ∧ 0 ≤ i ∧ i < 10 ^ k := by
  have e := nine_list hk
  have hl : (Txt.mul (Str.ofString "9") (k : Int)).length = k := by
    show (Txt.mul (Str.ofString "9") (k : Int)).cps.size = k
    rw [← Array.length_toList, e, List.length_replicate]
  have hd : NumText.AllDigits (Txt.mul (Str.ofString "9") (k : Int)).cps.toList := by
    rw [e]
    intro c hc
    rw [List.eq_of_mem_replicate hc]
    omega
  have hne : (Txt.mul (Str.ofString "9") (k : Int)).cps.toList ≠ [] := by
    rw [e]
    intro z
    have := congrArg List.length z
    simp at this
    omega
  have ht := intText_digits hd hne (by rw [hl]; omega)
  refine ⟨_, ht, by rw [hl]; exact Nat.le_trans h (by decide), Int.natCast_nonneg _, ?_⟩
  have hv := digits_lt _ 0 hd
  have el : (Txt.mul (Str.ofString "9") (k : Int)).cps.toList.length = k := by rw [e, List.length_replicate]
  rw [el, Nat.zero_add, Nat.one_mul] at hv
  have h2 : ((10 : Int) ^ k) = (((10 : Nat) ^ k : Nat) : Int) := by simp
  rw [h2]
  exact Int.ofNat_lt.mpr hv
theorem len__law_integer : ∀ W ds Q R, sp__law_integer W ds Q R → ds.length = 2 := by
  rintro W ds Q R ⟨d, l, n, _, rfl, _⟩
  rfl
theorem ten_sz {k : Nat} {i : Int} (h0 : 0 ≤ i) (h : i < 10 ^ (6 * k)) : Sz (20 * k) i := by
  have e : (10 : Nat) ^ (6 * k) ≤ 2 ^ (20 * k) := by
    rw [Nat.pow_mul, Nat.pow_mul]
    exact Nat.pow_le_pow_left (by decide) k
  show i.natAbs < 2 ^ (20 * k)
  have h2 : ((10 : Int) ^ (6 * k)) = (((10 : Nat) ^ (6 * k) : Nat) : Int) := by simp
  rw [h2] at h
  omega
theorem int_loop (d l : Addr) (R : Er → Prop) (E : Ed) (y z u : SV) (N : Nat) (hN : N ≤ 200) (hE : ∀ a v, Sz (20 * N) a → E.nx [.d (dkD d), y, z, u, .d (.int a), v]) : ∀ (ds : List D) (a : Int) (M : Nat) (v : SV), 0 ≤ a → a < 10 ^ (6 * M) → M + ds.length ≤ N →
    forG (ggName 5) (gSet 4 (gBin addD (gBin mulD (gVar 4) (gBin powD (gC (.int 10)) (gC (.int 6)))) (gCall sp__law_draw (some (d, l)) R (gCons (gVar 0) (gCons (gBin powD (gC (.int 10)) (gC (.int 6))) gNil))))) ds E [.d (dkD d), y, z, u, .d (.int a), v]
  | [], a, M, v, h0, h1, h3 => hE a v ((ten_sz h0 h1).mono (by simp at h3; omega))
  | x :: ds, a, M, v, h0, h1, h3 => by
    have m1 : ND.MulOk a 1000000 := (ten_sz h0 h1).ok (n := 20 * M) (m := 20) (by decide) (by simp at h3; omega)
    simp [forG, m1]
    refine dr (by decide) (by decide) fun r r0 r1 => ?_
    simp
    refine int_loop d l R E y z u N hN hE ds _ (M + 1) (.d x) ?_ ?_ (by simp at h3; omega)
    · omega
    · have e : (10 : Int) ^ (6 * (M + 1)) = 10 ^ (6 * M) * 1000000 := by
        rw [Nat.mul_add, Int.pow_add]
        rfl
      rw [e]
      omega
theorem law__law_integer : ∀ W ds Q R, sp__law_integer W ds Q R → g__law_integer W R (endsD Q) (startD 6 ds) := by
  rintro W ds Q R ⟨d, l, n, rfl, rfl, h1, h2, q⟩
  have m1 : ND.MulOk 6 (n : Int) := (Sz.small (by decide) (by decide)).ok (sz_nat (by omega)) (by decide)
  simp [g__law_integer, startD, m1]
  refine dr (by decide) (by decide) fun way w0 w1 => ?_
  refine dr (by decide) (by decide) fun fc f0 f1 => ?_
  have mf : ND.MulOk 2 fc := (Sz.small (by decide) (by decide)).ok (Sz.small (by omega) (by omega)) (by decide)
  have sf : Sz 2 (1 - 2 * fc) := by
    show (1 - 2 * fc).natAbs < 2 ^ 2
    omega
  simp [mf]
  generalize 1 - 2 * fc = fac at sf
  split
  · have wc : way = 0 ∨ way = 1 ∨ way = 2 ∨ way = 3 ∨ way = 4 ∨ way = 5 := by omega
    have fin : ∀ k : Int, 0 < k → k ≤ 1000 → sp__law_draw (some (d, l)) [dkD d, .int k] (fun y => mulD (.int fac) y Q) R := fun k k0 k1 => by
      refine dr k0 (by rw [e62]; omega) fun r r0 r1 => ?_
      have sr : Sz 20 r := Sz.small (by omega) (by omega)
      simp
      exact ⟨sf.ok sr (by decide), q _ ((sf.mul sr).mono (by omega))⟩
    rcases wc with h | h | h | h | h | h <;> subst h <;> simp [ixD, atI, ixN] <;> exact fin _ (by decide) (by decide)
  · split
    · obtain ⟨i, e1, e2, i0, i1⟩ := nine_text (k := 6 * n) (by omega) (by omega)
      have ek : (6 * (n : Int)) = ((6 * n : Nat) : Int) := by simp
      rw [ek]
      refine ⟨by omega, ?_, by decide, i, e1, e2, ?_⟩
      · have : (Str.ofString "9").length = 1 := by decide
        rw [this]
        rw [Int.toNat_natCast, Nat.one_mul]
        exact Nat.le_trans (by omega : 6 * n ≤ 1020) (by decide : 1020 ≤ sizeLine)
      · refine dr (by decide) (by decide) fun r r0 r1 => ?_
        have si : Sz (20 * n + 6) (i - r) := by
          have s1 := ten_sz i0 i1
          have s2 : Sz 20 r := Sz.small (by omega) (by omega)
          exact ((s1.mono (by omega : 20 * n ≤ 20 * n + 0)).sub (s2.mono (by omega))).mono (by omega)
        simp
        exact ⟨sf.ok si (by omega), q _ ((sf.mul si).mono (by omega))⟩
    · refine dr (by omega) (by rw [e62]; omega) fun r r0 r1 => ?_
      simp
      refine ⟨by omega, by omega, ?_⟩
      refine int_loop d l R _ _ _ _ n (by omega) (fun a v sa => ?_) _ 0 0 _ (by decide) (by decide) (by simp [ND.intsFrom]; omega)
      simp
      exact ⟨sf.ok sa (by omega), q _ ((sf.mul sa).mono (by omega))⟩
theorem len__law_golden : ∀ W ds Q R, sp__law_golden W ds Q R → ds.length = 2 := by
  rintro W ds Q R ⟨d, l, n, _, rfl, _⟩
  rfl
theorem law__law_golden : ∀ W ds Q R, sp__law_golden W ds Q R → g__law_golden W R (endsD Q) (startD 3 ds) := by
  rintro W ds Q R ⟨d, l, n, rfl, rfl, h1, h2, q⟩
  have fin : ∀ m : Int, 1 ≤ m → Sz (20 * n + 21) m → sp__law_integer (some (d, l)) [dkD d, .int n] (fun x => sp__law_integer (some (d, l)) [dkD d, .int n] (fun y => Q (.tup [x, y, .int m])) R) R := fun m m1 m2 =>
    ⟨d, l, n, rfl, rfl, h1, h2, fun a sa => ⟨d, l, n, rfl, rfl, h1, h2, fun b sb => q a b m ⟨sa.mono (by omega), sb.mono (by omega), m2, m1⟩⟩⟩
  simp [g__law_golden, startD]
  refine ⟨d, l, _, rfl, rfl, by simp, by simp, fun x hx => ?_⟩
  simp at hx
  rcases hx with h | h | h | h | h | h | h | h | h | h <;> subst h <;> simp
  all_goals first | exact fin _ (by decide) ((Sz.small (by decide) (by decide)).mono (by omega)) | skip
  refine ⟨d, l, n, rfl, rfl, h1, h2, fun i hi => ?_⟩
  have hi2 : i.natAbs < 2 ^ (20 * n + 20) := hi
  have hp : 2 ^ (20 * n + 21) = 2 ^ (20 * n + 20) * 2 := Nat.pow_succ ..
  simp
  refine fin _ (by split <;> omega) ?_
  show (1 + if i < 0 then -i else i).natAbs < 2 ^ (20 * n + 21)
  split <;> omega

theorem len__law_other : ∀ W ds Q R, sp__law_other W ds Q R → ds.length = 3 := by
  rintro W ds Q R ⟨d, l, n, a, b, m, _, rfl, _⟩
  rfl
theorem law__law_other : ∀ W ds Q R, sp__law_other W ds Q R → g__law_other W R (endsD Q) (startD 5 ds) := by
  rintro W ds Q R ⟨d, l, n, a, b, m, rfl, rfl, h1, h2, hB, q⟩
  obtain ⟨ba, bb, bm, b1⟩ := hB
  simp [g__law_other, startD]
  refine dr (by decide) (by decide) fun w w0 w1 => ?_
  refine dr (by decide) (by decide) fun f f0 f1 => ?_
  have sf : Sz 5 (1 + f) := by
    show (1 + f).natAbs < 2 ^ 5
    omega
  have p1 : 1 ≤ 1 + f := by omega
  simp
  generalize 1 + f = fac at sf p1 ⊢
  have ma := sf.ok ba (by omega)
  have mb := sf.ok bb (by omega)
  have mm := sf.ok bm (by omega)
  have na := sf.neg.ok ba (by omega)
  have nb := sf.neg.ok bb (by omega)
  have sa := sf.mul ba
  have sb := sf.mul bb
  have sm := sf.mul bm
  have ta := sf.neg.mul ba
  have tb := sf.neg.mul bb
  have pm : 1 ≤ fac * m := Int.le_trans (by decide) (Int.mul_le_mul p1 b1 (by decide) (by omega) : (1 : Int) * 1 ≤ fac * m)
  refine ite2 (fun h => ?_) (fun h => ?_)
  · exact ⟨ma, mb, mm, q _ _ _ ⟨sa.mono (by omega), sb.mono (by omega), sm.mono (by omega), pm⟩⟩
  refine ite2 (fun h => ?_) (fun h => ?_)
  · exact ⟨na, nb, mm, q _ _ _ ⟨ta.mono (by omega), tb.mono (by omega), sm.mono (by omega), pm⟩⟩
  refine ite2 (fun h => ?_) (fun h => ?_)
  · refine ⟨20 * n + 21, a, b, m, rfl, ⟨ba, bb, bm, b1⟩, by omega, ?_⟩
    obtain ⟨z1, z2, z3⟩ := con_sz (n := 20 * n + 21) ⟨ba, bb, bm, b1⟩
    obtain ⟨x, y, z, e, hz⟩ := red_num z1 z2 z3 (by omega)
    rw [e]
    exact q _ _ _ (hz.up (by omega))
  refine ite2 (fun h => ?_) (fun h => ?_)
  · exact q _ _ _ ⟨(show Sz 1 (0 : Int) by decide).mono (by omega), (show Sz 1 (0 : Int) by decide).mono (by omega), sf.mono (by omega), p1⟩
  refine ite2 (fun h => ?_) (fun h => ?_)
  · exact q _ _ _ ⟨bb.mono (by omega), ba.mono (by omega), bm.mono (by omega), b1⟩
  exact ⟨d, l, n, rfl, rfl, h1, h2, fun x y z hz => q _ _ _ (hz.up (by omega))⟩
theorem len__law_divided : ∀ W ds Q R, sp__law_divided W ds Q R → ds.length = 3 := by
  rintro W ds Q R ⟨n, m, a, b, d, c, e, f, t, rfl, _⟩
  rfl
theorem law__law_divided : ∀ W ds Q R, sp__law_divided W ds Q R → g__law_divided W R (endsD Q) (startD 4 ds) := by
  rintro W ds Q R ⟨n, m, a, b, d, c, e, f, t, rfl, h, k, l, q0, q1⟩
  have hz : clsM (Str.ofString "DividedByZero") (Str.ofString "DividedByZero") = some true := by decide +kernel
  cases t <;> simp [g__law_divided, startD, endsD]
  all_goals exact ⟨n, m, a, b, d, c, e, f, rfl, h, k, l, fun z => ⟨true, hz, by simpa using q0 z⟩, q1⟩
theorem Sz.big {i : Int} (h : Sz 14000 i) : i.natAbs < 10 ^ 4300 := Nat.lt_of_lt_of_le h (by decide +kernel)
theorem Num.big {a b d : Int} (h : Num 14000 a b d) : bigOk (toPy (tri a b d)) = true := by
  have h1 := h.1.big
  have h2 := h.2.1.big
  have h3 := h.2.2.1.big
  simp only [tri, toPy, toPys, bigOk, bigAll, Bool.and_true, Bool.and_eq_true]
  exact ⟨decide_eq_true h1, decide_eq_true h2, decide_eq_true h3⟩
theorem Num.rok {a b d : Int} (h : Num 14000 a b d) : Rok (tri a b d) := ⟨rfl, h.big, by simp [rsz, rszs]⟩
theorem rok_six {a b d a1 b1 d1 a2 b2 d2 a3 b3 d3 a5 b5 d5 : Int} {x : D} (h : Num 14000 a b d) (h1 : Num 14000 a1 b1 d1) (h2 : Num 14000 a2 b2 d2) (h3 : Num 14000 a3 b3 d3) (h5 : Num 14000 a5 b5 d5) (hx : x = .str "zero" ∨ ∃ a b d, Num 14000 a b d ∧ x = tri a b d) :
    Rok (.lst [tri a b d, tri a1 b1 d1, tri a2 b2 d2, tri a3 b3 d3, x, tri a5 b5 d5]) := by
  have e : bigOk (toPy x) = true := by
    rcases hx with rfl | ⟨_, _, _, z, rfl⟩
    · rfl
    · exact z.big
  refine ⟨?_, ?_, ?_⟩
  · rcases hx with rfl | ⟨_, _, _, z, rfl⟩
    · have : PyData.strOk (Str.ofString "zero") = true := by decide +kernel
      simp [pl, pls, this]
    · rfl
  · show bigAll [toPy (tri a b d), toPy (tri a1 b1 d1), toPy (tri a2 b2 d2), toPy (tri a3 b3 d3), toPy x, toPy (tri a5 b5 d5)] = true
    simp only [bigAll, h.big, h1.big, h2.big, h3.big, h5.big, e, Bool.and_true]
  · have : (Str.ofString "zero").cps.size = 4 := by decide +kernel
    rcases hx with rfl | ⟨_, _, _, z, rfl⟩ <;> simp [rsz, rszs, this]
/-- reduced, and what it was reduced by -/
theorem red_num2 {n : Nat} {a b d : Int} (ha : Sz n a) (hb : Sz n b) (hd : Sz n d) (h : 1 ≤ d) : ∃ x y z c, red a b d = tri x y z ∧ Num n x y z ∧ 1 ≤ c ∧ a = c * x ∧ b = c * y ∧ d = c * z := by
  obtain ⟨⟨x, ex⟩, ⟨y, ey⟩, ⟨z, ez⟩⟩ := cdv_dvd a b d
  have hc := cdv_ne (a := a) (b := b) (d := d) (by omega)
  have hs := cdv_sign (a := a) (b := b) (d := d) (by omega)
  obtain ⟨x', y', z', e, hn⟩ := red_num ha hb hd (by omega)
  have e2 := e
  unfold red at e2
  have f1 : a.fdiv (cdv a b d) = x := by
    conv => lhs; arg 1; rw [ex]
    exact Int.mul_fdiv_cancel_left _ hc
  have f2 : b.fdiv (cdv a b d) = y := by
    conv => lhs; arg 1; rw [ey]
    exact Int.mul_fdiv_cancel_left _ hc
  have f3 : d.fdiv (cdv a b d) = z := by
    conv => lhs; arg 1; rw [ez]
    exact Int.mul_fdiv_cancel_left _ hc
  rw [f1, f2, f3] at e2
  simp at e2
  obtain ⟨rfl, rfl, rfl⟩ := e2
  exact ⟨x, y, z, cdv a b d, e, hn, by omega, ex, ey, ez⟩
theorem cdv_scale {k a b d : Int} (hk : 1 ≤ k) (hd : d ≠ 0) : cdv (k * a) (k * b) (k * d) = k * cdv a b d := by
  unfold cdv
  rw [Int.natAbs_mul, Int.natAbs_mul, Int.natAbs_mul, Nat.gcd_mul_left, Nat.gcd_mul_left, Int.natCast_mul]
  have hn : ((k.natAbs : Nat) : Int) = k := by omega
  rw [hn]
  rcases Int.lt_or_gt_of_ne hd with h | h
  · have : k * d < 0 := Int.mul_neg_of_pos_of_neg (by omega) h
    rw [if_pos h, if_pos this, Int.mul_neg]
  · have : 0 < k * d := Int.mul_pos (by omega) h
    rw [if_neg (by omega), if_neg (by omega)]
theorem red_scale {k a b d : Int} (hk : 1 ≤ k) (hd : d ≠ 0) : red (k * a) (k * b) (k * d) = red a b d := by
  unfold red
  rw [cdv_scale hk hd, Int.mul_fdiv_mul_of_pos _ _ (by omega), Int.mul_fdiv_mul_of_pos _ _ (by omega), Int.mul_fdiv_mul_of_pos _ _ (by omega)]
theorem red_by {k a b d x y z : Int} (hk : 1 ≤ k) (hd : d ≠ 0) (e1 : x = k * a) (e2 : y = k * b) (e3 : z = k * d) : red x y z = red a b d := by
  rw [e1, e2, e3]
  exact red_scale hk hd
theorem len__law_are_right : ∀ W ds Q R, sp__law_are_right W ds Q R → ds.length = 3 := by
  rintro W ds Q R ⟨d, l, a, b, m, c, e, f, _, rfl, _⟩
  rfl
theorem law__law_are_right : ∀ W ds Q R, sp__law_are_right W ds Q R → g__law_are_right W R (endsD Q) (startD 8 ds) := by
  rintro W ds Q R ⟨d, l, a, b, m, c, e, f, rfl, rfl, h, k, q⟩
  obtain ⟨p1, p2, p3, p4⟩ := add_sz h k
  obtain ⟨m1, m2, m3, m4⟩ := add_sz h k.neg
  obtain ⟨t1, t2, t3, t4⟩ := mul_sz h k
  obtain ⟨c1, c2, c3⟩ := con_sz h
  obtain ⟨s1, s2, s3, s4⟩ := quo_sz h k
  obtain ⟨x0, y0, z0, e0, n0⟩ := red_num h.1 h.2.1 h.2.2.1 (by have := h.2.2.2; omega)
  obtain ⟨x1, y1, z1, e1, n1⟩ := red_num p1 p2 p3 (by omega)
  obtain ⟨x2, y2, z2, e2, n2⟩ := red_num m1 m2 m3 (by omega)
  obtain ⟨x3, y3, z3, e3, n3⟩ := red_num t1 t2 t3 (by omega)
  obtain ⟨x5, y5, z5, e5, n5⟩ := red_num c1 c2 c3 (by have := h.2.2.2; omega)
  have r0 : ∀ {Q : D → Prop} {R : Er → Prop}, Q (tri x0 y0 z0) → sp__law_least (some (d, l)) [.int a, .int b, .int m] Q R := fun q => ⟨_, _, _, rfl, h.1.mono (by omega), h.2.1.mono (by omega), h.2.2.1.mono (by omega), h.2.2.2, by rw [e0]; exact q⟩
  have r1 : ∀ {Q : D → Prop} {R : Er → Prop}, Q (tri x1 y1 z1) → sp_added (some (d, l)) [tri a b m, tri c e f] Q R := fun q => ⟨_, _, _, _, _, _, _, _, rfl, h, k, by omega, by rw [e1]; exact q⟩
  have r2 : ∀ {Q : D → Prop} {R : Er → Prop}, Q (tri x2 y2 z2) → sp_added (some (d, l)) [tri a b m, tri (-c) (-e) f] Q R := fun q => ⟨_, _, _, _, _, _, _, _, rfl, h, k.neg, by omega, by rw [e2]; exact q⟩
  have r3 : ∀ {Q : D → Prop} {R : Er → Prop}, Q (tri x3 y3 z3) → sp_multiplied (some (d, l)) [tri a b m, tri c e f] Q R := fun q => ⟨_, _, _, _, _, _, _, _, rfl, h, k, by omega, by rw [e3]; exact q⟩
  have r5 : ∀ {Q : D → Prop} {R : Er → Prop}, Q (tri x5 y5 z5) → sp__law_conjugate (some (d, l)) [tri a b m] Q R := fun q => ⟨_, _, _, _, rfl, h, by omega, by rw [e5]; exact q⟩
  have r0' : ∀ {Q : D → Prop} {R : Er → Prop}, Q (tri x0 y0 z0) → sp_reduced (some (d, l)) [tri a b m] Q R := fun q => ⟨_, _, _, _, rfl, h, by omega, by rw [e0]; exact q⟩
  have r2' : ∀ {Q : D → Prop} {R : Er → Prop}, Q (tri x2 y2 z2) → sp_taken (some (d, l)) [tri a b m, tri c e f] Q R := fun q => ⟨_, _, _, _, _, _, _, _, rfl, h, k, by omega, by rw [e2]; exact q⟩
  have ro : ∀ {Q : D → Prop} {R : Er → Prop}, Q (tri (-c) (-e) f) → sp__law_opposite (some (d, l)) [tri c e f] Q R := fun q => ⟨_, _, _, rfl, q⟩
  have main : ∃ x : D, (x = .str "zero" ∨ ∃ a b d, Num 14000 a b d ∧ x = tri a b d) ∧ (c = 0 ∧ e = 0 → x = .str "zero") ∧ (∀ {Q : D → Prop} {R : Er → Prop}, Q x → (if c = 0 ∧ e = 0 then Q (.str "zero") else sp__law_quotient (some (d, l)) [tri a b m, tri c e f] Q R)) ∧ ∀ {Q : D → Prop} {R : Er → Prop} {t : Bool}, Q x → sp__law_divided (some (d, l)) [tri a b m, tri c e f, .bl t] Q R := by
    by_cases h0 : c = 0 ∧ e = 0
    · refine ⟨.str "zero", .inl rfl, fun _ => rfl, fun q => by rw [if_pos h0]; exact q, fun q => ⟨_, _, _, _, _, _, _, _, _, rfl, h, k, by omega, fun _ => q, fun z => absurd h0 z⟩⟩
    · have hN := norm_ne h0
      obtain ⟨x, y, z, ee, nn⟩ := red_num (n := 14000) ((s1.mul k.2.2.1).mono (by omega)) ((s2.mul k.2.2.1).mono (by omega)) ((s3.mul h.2.2.1).mono (by omega)) (Int.mul_ne_zero hN (by have := h.2.2.2; omega))
      refine ⟨_, .inr ⟨x, y, z, nn, rfl⟩, fun z => absurd z h0, fun q => ?_, fun q => ⟨_, _, _, _, _, _, _, _, _, rfl, h, k, by omega, fun z => absurd z h0, fun _ => by rw [ee]; exact q⟩⟩
      rw [if_neg h0]
      exact ⟨_, _, _, _, _, _, _, _, rfl, h, k, by omega, h0, by rw [ee]; exact q⟩
  obtain ⟨x4, n4, xz, q4, v4⟩ := main
  have R6 : Rok (.lst [tri x0 y0 z0, tri x1 y1 z1, tri x2 y2 z2, tri x3 y3 z3, x4, tri x5 y5 z5]) := rok_six (n0.up (by omega)) (n1.up (by omega)) (n2.up (by omega)) (n3.up (by omega)) (n5.up (by omega)) n4
  clear p1 p2 p3 p4 m1 m2 m3 m4 t1 t2 t3 t4 c1 c2 c3 s1 s2 s3 s4 e0 e1 e2 e3 e5
  by_cases hz : c = 0 ∧ e = 0
  · have ex : x4 = .str "zero" := xz hz
    obtain ⟨rfl, rfl⟩ := hz
    subst ex
    simp [g__law_are_right, startD]
    refine r0 (r1 (ro (r2 (r3 (r5 (dr (by decide) (by decide) fun r _ _ => ?_))))))
    by_cases hr : r = 0 <;> simp [hr]
    all_goals
      refine r0' (r1 (r2' (r3 (v4 (r5 ⟨_, rfl, R6, ?_⟩)))))
      simp [lcG, ixD, atI, ixN]
      exact ⟨a, b, m, rfl, h.2.2.2, by decide, _, _, _, rfl, k.2.2.2, by decide, _, _, _, rfl, n0.2.2.2, by decide, _, _, _, rfl, n3.2.2.2, by decide, by decide, by decide, by decide, _, rfl, ⟨by decide, by decide, by simp [rsz, rszs]⟩, q⟩
  · have q5 : ∀ {Q : D → Prop} {R : Er → Prop}, Q x4 → sp__law_quotient (some (d, l)) [tri a b m, tri c e f] Q R := fun z => by
      have := q4 (R := R) z
      rwa [if_neg hz] at this
    by_cases hc0 : c = 0
    · subst hc0
      have he0 : ¬ e = 0 := fun z => hz ⟨rfl, z⟩
      simp [g__law_are_right, startD, he0]
      refine r0 (r1 (ro (r2 (r3 (q5 (r5 (dr (by decide) (by decide) fun r _ _ => ?_)))))))
      by_cases hr : r = 0 <;> simp [hr]
      all_goals
        refine r0' (r1 (r2' (r3 (v4 (r5 ⟨_, rfl, R6, ?_⟩)))))
        simp [lcG, ixD, atI, ixN]
        exact ⟨a, b, m, rfl, h.2.2.2, by decide, _, _, _, rfl, k.2.2.2, by decide, _, _, _, rfl, n0.2.2.2, by decide, _, _, _, rfl, n3.2.2.2, by decide, by decide, by decide, by decide, _, rfl, ⟨by decide, by decide, by simp [rsz, rszs]⟩, q⟩
    · simp [g__law_are_right, startD, hc0]
      refine r0 (r1 (ro (r2 (r3 (q5 (r5 (dr (by decide) (by decide) fun r _ _ => ?_)))))))
      by_cases hr : r = 0 <;> simp [hr]
      all_goals
        refine r0' (r1 (r2' (r3 (v4 (r5 ⟨_, rfl, R6, ?_⟩)))))
        simp [lcG, ixD, atI, ixN]
        exact ⟨a, b, m, rfl, h.2.2.2, by decide, _, _, _, rfl, k.2.2.2, by decide, _, _, _, rfl, n0.2.2.2, by decide, _, _, _, rfl, n3.2.2.2, by decide, by decide, by decide, by decide, _, rfl, ⟨by decide, by decide, by simp [rsz, rszs]⟩, q⟩
/-- how far a chain of n more turns may go, from numbers below 2^t, 2^a -/
def lim : Nat → Nat → Nat → Bool
  | 0, _, _ => true
  | n + 1, t, a => decide (t + a ≤ 10000) && decide (t ≤ 10000) && lim n (t + a + 90) t
theorem same_tri {W : WD} {Q : D → Prop} {R : Er → Prop} {n : Nat} {a b m : Int} (h : Num n a b m) (hn : n ≤ 14000) (q : Q (.bl true)) : sp__law_same W [tri a b m, tri a b m] Q R := ⟨_, rfl, (h.up hn).rok, q⟩
theorem len__law_is_chain_right : ∀ W ds Q R, sp__law_is_chain_right W ds Q R → ds.length = 1 := by
  rintro W ds Q R ⟨d, l, _, rfl, _⟩
  rfl
theorem Num.pos {n : Nat} {a b d : Int} (h : Num n a b d) : 1 ≤ d := h.2.2.2
theorem law__law_is_chain_right : ∀ W ds Q R, sp__law_is_chain_right W ds Q R → g__law_is_chain_right W R (endsD Q) (startD 10 ds) := by
  rintro W ds Q R ⟨d, l, rfl, rfl, q⟩
  simp [g__law_is_chain_right, startD]
  refine ⟨d, l, 1, rfl, rfl, by decide, by decide, fun a b m h => ?_⟩
  obtain ⟨x, y, z, k, e, n, hk, rfl, rfl, rfl⟩ := red_num2 h.1 h.2.1 h.2.2.1 h.2.2.2
  have r0 : ∀ {Q : D → Prop} {R : Er → Prop}, Q (tri x y z) → sp__law_least (some (d, l)) [.int (k * x), .int (k * y), .int (k * z)] Q R := fun q => ⟨_, _, _, rfl, h.1.mono (by omega), h.2.1.mono (by omega), h.2.2.1.mono (by omega), h.2.2.2, by rw [e]; exact q⟩
  simp
  refine r0 (r0 ?_)
  refine forG_inv (fun ds σ => ∃ (k x y z j u v w : Int) (t a : Nat) (s5 s6 s7 s8 s9 : SV), σ = [.d (dkD d), .d (tri (k * x) (k * y) (k * z)), .d (tri x y z), .d (tri (j * u) (j * v) (j * w)), .d (tri u v w), s5, s6, s7, s8, s9] ∧
    1 ≤ k ∧ 1 ≤ j ∧ Num t (k * x) (k * y) (k * z) ∧ Num t x y z ∧ Num a (j * u) (j * v) (j * w) ∧ Num a u v w ∧ lim ds.length t a = true) ?_ ?_ _ _ ⟨k, x, y, z, k, x, y, z, 41, 41, _, _, _, _, _, rfl, hk, hk, h, n, h, n, by decide⟩
  · rintro σ ⟨_, _, _, _, _, _, _, _, _, _, _, _, _, _, _, rfl, _⟩
    simpa using q
  rintro i ds σ ⟨k, x, y, z, j, u, v, w, t, a, s5, s6, s7, s8, s9, rfl, hk, hj, h1, h2, h3, h4, hl⟩ E' hrt hbk hnx hct
  simp only [lim, List.length_cons, Bool.and_eq_true, decide_eq_true_eq] at hl
  obtain ⟨⟨l1, l2⟩, l3⟩ := hl
  simp
  refine dr (by decide) (by decide) fun r r0 r1 => ?_
  refine ⟨d, l, 1, rfl, rfl, by decide, by decide, fun c e f hp => ?_⟩
  -- a turn's end
  have fin : ∀ {X Y Z : Int} {s5 s6 s7 : SV}, Num (t + a + 90) X Y Z → sp__law_same (some (d, l)) [tri X Y Z, tri X Y Z] (fun d_1 => truthD d_1 fun b => if b = true then E'.nx [.d (dkD d), .d (tri X Y Z), .d (tri X Y Z), .d (tri (k * x) (k * y) (k * z)), .d (tri x y z), s5, s6, s7, .d (tri (k * x) (k * y) (k * z)), .d (tri x y z)] else E'.rt (.bl false)) R := fun {X Y Z s5 s6 s7} hn => by
    refine same_tri hn (by omega) ?_
    simp
    refine hnx _ ⟨1, X, Y, Z, k, x, y, z, t + a + 90, t, s5, s6, s7, .d (tri (k * x) (k * y) (k * z)), .d (tri x y z), ?_, by decide, hk, by simpa using hn, hn, h1, h2, l3⟩
    simp
  have hz := h2.pos
  have hf := hp.pos
  have hw := h4.pos
  have hkz := h1.pos
  have hjw := h3.pos
  have prod : ∃ X Y Z, Num (t + a + 90) X Y Z ∧ red (j * u * (k * x) + j * v * (k * y)) (j * u * (k * y) + j * v * (k * x) + j * v * (k * y)) (j * w * (k * z)) = tri X Y Z ∧ red (u * x + v * y) (u * y + v * x + v * y) (w * z) = tri X Y Z := by
    obtain ⟨z1, z2, z3, z4⟩ := mul_sz h4 h2
    obtain ⟨X, Y, Z, eX, nX⟩ := red_num z1 z2 z3 (by omega)
    exact ⟨X, Y, Z, nX.up (by omega), (red_by (k := j * k) (Int.mul_pos hj hk) (by omega) (by grind) (by grind) (by grind)).trans eX, eX⟩
  obtain ⟨X5, Y5, Z5, n5, e5, e5'⟩ := prod
  have last : sp_times (some (d, l)) [tri (j * u) (j * v) (j * w), tri (k * x) (k * y) (k * z)] (fun x_2 => sp__law_times (some (d, l)) [tri u v w, tri x y z] (fun x_3 => sp__law_same (some (d, l)) [x_2, x_3] (fun d_1 => truthD d_1 fun b => if b = true then E'.nx [.d (dkD d), .d x_2, .d x_3, .d (tri (k * x) (k * y) (k * z)), .d (tri x y z), .d i, .d (.int r), .d (tri c e f), .d (tri (k * x) (k * y) (k * z)), .d (tri x y z)] else E'.rt (.bl false)) R) R) R := by
    refine ⟨a, t, _, _, _, _, _, _, rfl, h3, h1, by omega, ?_⟩
    rw [e5]
    refine ⟨a, t, _, _, _, _, _, _, rfl, h4, h2, by omega, ?_⟩
    rw [e5']
    exact fin n5
  have rc : r = 0 ∨ r = 1 ∨ r = 2 ∨ r = 3 ∨ r = 4 ∨ r = 5 := by omega
  rcases rc with h | h | h | h | h | h <;> subst h
  · simp
    obtain ⟨z1, z2, z3, z4⟩ := add_sz h2 hp
    obtain ⟨X, Y, Z, eX, nX⟩ := red_num z1 z2 z3 (by omega)
    have e0 : red (k * x * f + c * (k * z)) (k * y * f + e * (k * z)) (k * z * f) = tri X Y Z := (red_by hk (by omega) (by grind) (by grind) (by grind)).trans eX
    refine ⟨t, 41, _, _, _, _, _, _, rfl, h1, hp, by omega, ?_⟩
    rw [e0]
    refine ⟨t, 41, _, _, _, _, _, _, rfl, h2, hp, by omega, ?_⟩
    rw [eX]
    exact fin (nX.up (by omega))
  · simp
    obtain ⟨z1, z2, z3, z4⟩ := add_sz hp h2.neg
    obtain ⟨X, Y, Z, eX, nX⟩ := red_num z1 z2 z3 (by omega)
    have e0 : red (c * (k * z) + -(k * x) * f) (e * (k * z) + -(k * y) * f) (f * (k * z)) = tri X Y Z := (red_by hk (by omega) (by grind) (by grind) (by grind)).trans eX
    refine ⟨41, t, _, _, _, _, _, _, rfl, hp, h1, by omega, ?_⟩
    rw [e0]
    refine ⟨_, _, _, rfl, 41, t, _, _, _, _, _, _, rfl, hp, h2.neg, by omega, ?_⟩
    rw [eX]
    exact fin (nX.up (by omega))
  · simp
    obtain ⟨z1, z2, z3, z4⟩ := mul_sz h2 hp
    obtain ⟨X, Y, Z, eX, nX⟩ := red_num z1 z2 z3 (by omega)
    have e0 : red (k * x * c + k * y * e) (k * x * e + k * y * c + k * y * e) (k * z * f) = tri X Y Z := (red_by hk (by omega) (by grind) (by grind) (by grind)).trans eX
    refine ⟨t, 41, _, _, _, _, _, _, rfl, h1, hp, by omega, ?_⟩
    rw [e0]
    refine ⟨t, 41, _, _, _, _, _, _, rfl, h2, hp, by omega, ?_⟩
    rw [eX]
    exact fin (nX.up (by omega))
  · by_cases h0 : c = 0 ∧ e = 0
    · obtain ⟨rfl, rfl⟩ := h0
      simp
      exact last
    · have hN := norm_ne h0
      obtain ⟨s1, s2, s3, s4⟩ := quo_sz h2 hp
      obtain ⟨X, Y, Z, eX, nX⟩ := red_num (n := t + 90) ((s1.mul hp.2.2.1).mono (by omega)) ((s2.mul hp.2.2.1).mono (by omega)) ((s3.mul h2.2.2.1).mono (by omega)) (Int.mul_ne_zero hN (by omega))
      have e0 : red ((k * x * (c + e) - k * y * e) * f) ((k * y * c - k * x * e) * f) ((c * c + c * e - e * e) * (k * z)) = tri X Y Z := (red_by hk (Int.mul_ne_zero hN (by omega)) (by grind) (by grind) (by grind)).trans eX
      have go : sp_quotient (some (d, l)) [tri (k * x) (k * y) (k * z), tri c e f] (fun x_2 => sp__law_quotient (some (d, l)) [tri x y z, tri c e f] (fun x_3 => sp__law_same (some (d, l)) [x_2, x_3] (fun d_1 => truthD d_1 fun b => if b = true then E'.nx [.d (dkD d), .d x_2, .d x_3, .d (tri (k * x) (k * y) (k * z)), .d (tri x y z), .d i, .d (.int 3), .d (tri c e f), .d (tri (k * x) (k * y) (k * z)), .d (tri x y z)] else E'.rt (.bl false)) R) R) R := by
        refine ⟨t, 41, _, _, _, _, _, _, rfl, h1, hp, by omega, fun z => absurd z h0, fun _ => ?_⟩
        rw [e0]
        refine ⟨t, 41, _, _, _, _, _, _, rfl, h2, hp, by omega, h0, ?_⟩
        rw [eX]
        exact fin (nX.up (by omega))
      by_cases hc : c = 0
      · have he : ¬ e = 0 := fun z => h0 ⟨hc, z⟩
        subst hc
        simp [he]
        exact go
      · simp [hc]
        exact go
  · simp
    obtain ⟨c1, c2, c3⟩ := con_sz h2
    obtain ⟨d1, d2, d3⟩ := con_sz h1
    obtain ⟨U, V, T, eU, nU⟩ := red_num c1 c2 c3 (by omega)
    have e1 : red (k * x + k * y) (-(k * y)) (k * z) = tri U V T := (red_by hk (by omega) (by grind) (by grind) (by grind)).trans eU
    obtain ⟨z1, z2, z3, z4⟩ := add_sz nU h4
    obtain ⟨X, Y, Z, eX, nX⟩ := red_num z1 z2 z3 (by omega)
    have e0 : red (U * (j * w) + j * u * T) (V * (j * w) + j * v * T) (T * (j * w)) = tri X Y Z := (red_by hj (by omega) (by grind) (by grind) (by grind)).trans eX
    refine ⟨t, _, _, _, rfl, h1, by omega, ?_⟩
    rw [e1]
    refine ⟨t + 1, a, _, _, _, _, _, _, rfl, nU, h3, by omega, ?_⟩
    rw [e0]
    refine ⟨t, _, _, _, rfl, h2, by omega, ?_⟩
    rw [eU]
    refine ⟨t + 1, a, _, _, _, _, _, _, rfl, nU, h4, by omega, ?_⟩
    rw [eX]
    exact fin (nX.up (by omega))
  · simp
    exact last
theorem conj_mul {a b c e k2 k3 x2 y2 x3 y3 : Int} (g1 : a + b = k2 * x2) (g2 : -b = k2 * y2) (h1 : c + e = k3 * x3) (h2 : -e = k3 * y3) : k2 * k3 * (x2 * x3 + y2 * y3) = (a * c + b * e) + (a * e + b * c + b * e) ∧ k2 * k3 * (x2 * y3 + y2 * x3 + y2 * y3) = -(a * e + b * c + b * e) := by
  have t1 : k2 * k3 * (x2 * x3 + y2 * y3) = (k2 * x2) * (k3 * x3) + (k2 * y2) * (k3 * y3) := by grind
  have t2 : k2 * k3 * (x2 * y3 + y2 * x3 + y2 * y3) = (k2 * x2) * (k3 * y3) + (k2 * y2) * (k3 * x3) + (k2 * y2) * (k3 * y3) := by grind
  rw [t1, t2, ← g1, ← g2, ← h1, ← h2]
  clear t1 t2 g1 g2 h1 h2
  constructor <;> grind
theorem mul4 (a b c d : Int) : a * b * (c * d) = a * c * (b * d) := by grind
theorem dist3 {a b m c e f u v w x y z k4 k5 k6 x5 y5 z5 x6 y6 z6 : Int} (i1 : a * c + b * e = k4 * x) (i2 : a * e + b * c + b * e = k4 * y) (i3 : m * f = k4 * z) (l1 : a * u + b * v = k6 * x6) (l2 : a * v + b * u + b * v = k6 * y6) (l3 : m * w = k6 * z6)
    (j1 : c * w + u * f = k5 * x5) (j2 : e * w + v * f = k5 * y5) (j3 : f * w = k5 * z5) : k4 * k6 * (x * z6 + x6 * z) = k5 * m * (a * x5 + b * y5) ∧ k4 * k6 * (y * z6 + y6 * z) = k5 * m * (a * y5 + b * x5 + b * y5) ∧ k4 * k6 * (z * z6) = k5 * m * (m * z5) := by
  have t1 : k4 * k6 * (x * z6 + x6 * z) = (k4 * x) * (k6 * z6) + (k6 * x6) * (k4 * z) := by clear i1 i2 i3 l1 l2 l3 j1 j2 j3; grind
  have t2 : k4 * k6 * (y * z6 + y6 * z) = (k4 * y) * (k6 * z6) + (k6 * y6) * (k4 * z) := by clear i1 i2 i3 l1 l2 l3 j1 j2 j3; grind
  have t3 : k4 * k6 * (z * z6) = (k4 * z) * (k6 * z6) := by clear i1 i2 i3 l1 l2 l3 j1 j2 j3; grind
  have t4 : k5 * m * (a * x5 + b * y5) = m * (a * (k5 * x5) + b * (k5 * y5)) := by clear i1 i2 i3 l1 l2 l3 j1 j2 j3; grind
  have t5 : k5 * m * (a * y5 + b * x5 + b * y5) = m * (a * (k5 * y5) + b * (k5 * x5) + b * (k5 * y5)) := by clear i1 i2 i3 l1 l2 l3 j1 j2 j3; grind
  have t6 : k5 * m * (m * z5) = m * m * (k5 * z5) := by clear i1 i2 i3 l1 l2 l3 j1 j2 j3; grind
  rw [t1, t2, t3, t4, t5, t6, ← i1, ← i2, ← i3, ← l1, ← l2, ← l3, ← j1, ← j2, ← j3]
  clear t1 t2 t3 t4 t5 t6 i1 i2 i3 l1 l2 l3 j1 j2 j3
  refine ⟨?_, ?_, ?_⟩ <;> grind
theorem law_tail (d l : Addr) : sp__law_golden (some (d, l)) [dkD d, .int 2] (fun x => sp__law_golden (some (d, l)) [dkD d, .int 2] (fun x_1 => sp__law_golden (some (d, l)) [dkD d, .int 2] (fun x_2 =>
    sp_plus (some (d, l)) [x, x_1] (fun x_3 => sp_conjugate (some (d, l)) [x_3] (fun x_4 => sp_conjugate (some (d, l)) [x] (fun x_5 => sp_conjugate (some (d, l)) [x_1] (fun x_6 => sp_plus (some (d, l)) [x_5, x_6] (fun x_7 => sp__law_same (some (d, l)) [x_4, x_7] (fun d_2 => truthD d_2 fun b => b = true ∧
    sp_times (some (d, l)) [x, x_1] (fun x_8 => sp_conjugate (some (d, l)) [x_8] (fun x_9 => sp_conjugate (some (d, l)) [x] (fun x_10 => sp_conjugate (some (d, l)) [x_1] (fun x_11 => sp_times (some (d, l)) [x_10, x_11] (fun x_12 => sp__law_same (some (d, l)) [x_9, x_12] (fun d_3 => truthD d_3 fun b => b = true ∧
    sp_plus (some (d, l)) [x_1, x_2] (fun x_13 => sp_times (some (d, l)) [x, x_13] (fun x_14 => sp__law_times (some (d, l)) [x, x_1] (fun x_15 => sp__law_times (some (d, l)) [x, x_2] (fun x_16 => sp__law_plus (some (d, l)) [x_15, x_16] (fun x_17 => sp__law_same (some (d, l)) [x_14, x_17] (fun d_4 => truthD d_4 fun b => b = true ∧
    sp__law_is_chain_right (some (d, l)) [dkD d] (fun r => r = .bl true) fun _ => False) fun _ => False) fun _ => False) fun _ => False) fun _ => False) fun _ => False) fun _ => False)
    fun _ => False) fun _ => False) fun _ => False) fun _ => False) fun _ => False) fun _ => False)
    fun _ => False) fun _ => False) fun _ => False) fun _ => False) fun _ => False) fun _ => False) fun _ => False) fun _ => False) fun _ => False := by
  refine ⟨d, l, 2, rfl, rfl, by decide, by decide, fun a b m h => ⟨d, l, 2, rfl, rfl, by decide, by decide, fun c e f k => ⟨d, l, 2, rfl, rfl, by decide, by decide, fun u v w o => ?_⟩⟩⟩
  have hm := h.pos
  have hf := k.pos
  have hw := o.pos
  obtain ⟨p1, p2, p3, p4⟩ := add_sz h k
  obtain ⟨x, y, z, k1, e1, n1, hk1, f1, f2, f3⟩ := red_num2 p1 p2 p3 p4
  obtain ⟨c1, c2, c3⟩ := con_sz n1
  obtain ⟨d1, d2, d3⟩ := con_sz h
  obtain ⟨x2, y2, z2, k2, e2, n2, hk2, g1, g2, g3⟩ := red_num2 d1 d2 d3 hm
  obtain ⟨q1, q2, q3⟩ := con_sz k
  obtain ⟨x3, y3, z3, k3, e3, n3, hk3, h1, h2, h3⟩ := red_num2 q1 q2 q3 hf
  have hz := n1.pos
  have hz2 := n2.pos
  have hz3 := n3.pos
  obtain ⟨a1, a2, a3, a4⟩ := add_sz n2 n3
  obtain ⟨X, Y, Z, eX, nX⟩ := red_num a1 a2 a3 (by omega)
  have E1 : red (x + y) (-y) z = tri X Y Z := by
    rw [← eX, ← red_by (k := k1) (a := x + y) (b := -y) (d := z) (x := k2 * k3 * (x2 * z3 + x3 * z2)) (y := k2 * k3 * (y2 * z3 + y3 * z2)) (z := k2 * k3 * (z2 * z3)) hk1 (by omega) (by grind) (by grind) (by grind)]
    exact red_by (Int.mul_pos hk2 hk3) (by omega) rfl rfl rfl
  refine ⟨_, _, _, _, _, _, _, _, rfl, h, k, by decide, ?_⟩
  rw [e1]
  refine ⟨_, _, _, _, rfl, n1, by decide, ?_⟩
  rw [E1]
  refine ⟨_, _, _, _, rfl, h, by decide, ?_⟩
  rw [e2]
  refine ⟨_, _, _, _, rfl, k, by decide, ?_⟩
  rw [e3]
  refine ⟨_, _, _, _, _, _, _, _, rfl, n2, n3, by decide, ?_⟩
  rw [eX]
  refine same_tri nX (by decide) ?_
  simp
  obtain ⟨t1, t2, t3, t4⟩ := mul_sz h k
  obtain ⟨x', y', z', k4, e4, n4, hk4, i1, i2, i3⟩ := red_num2 t1 t2 t3 t4
  obtain ⟨b1, b2, b3, b4⟩ := mul_sz n2 n3
  obtain ⟨X', Y', Z', eX', nX'⟩ := red_num b1 b2 b3 (by omega)
  have hz' := n4.pos
  have J1 : k2 * k3 * (x2 * x3 + y2 * y3) = k4 * (x' + y') := by
    rw [(conj_mul g1 g2 h1 h2).1, i1, i2, Int.mul_add]
  have J2 : k2 * k3 * (x2 * y3 + y2 * x3 + y2 * y3) = k4 * -y' := by
    rw [(conj_mul g1 g2 h1 h2).2, i2, Int.mul_neg]
  have J3 : k2 * k3 * (z2 * z3) = k4 * z' := by
    rw [← i3, g3, h3]
    exact mul4 _ _ _ _
  have E2 : red (x' + y') (-y') z' = tri X' Y' Z' := by
    rw [← eX', ← red_by (k := k4) (a := x' + y') (b := -y') (d := z') (x := k2 * k3 * (x2 * x3 + y2 * y3)) (y := k2 * k3 * (x2 * y3 + y2 * x3 + y2 * y3)) (z := k2 * k3 * (z2 * z3)) hk4 (by omega) J1 J2 J3]
    exact red_by (Int.mul_pos hk2 hk3) (by omega) rfl rfl rfl
  refine ⟨_, _, _, _, _, _, _, _, rfl, h, k, by decide, ?_⟩
  rw [e4]
  refine ⟨_, _, _, _, rfl, n4, by decide, ?_⟩
  rw [E2]
  refine ⟨_, _, _, _, rfl, h, by decide, ?_⟩
  rw [e2]
  refine ⟨_, _, _, _, rfl, k, by decide, ?_⟩
  rw [e3]
  refine ⟨_, _, _, _, _, _, _, _, rfl, n2, n3, by decide, ?_⟩
  rw [eX']
  refine same_tri nX' (by decide) ?_
  simp
  obtain ⟨u1, u2, u3, u4⟩ := add_sz k o
  obtain ⟨x5, y5, z5, k5, e5, n5, hk5, j1, j2, j3⟩ := red_num2 u1 u2 u3 u4
  obtain ⟨v1, v2, v3, v4⟩ := mul_sz h n5
  obtain ⟨w1, w2, w3, w4⟩ := mul_sz h o
  obtain ⟨x6, y6, z6, k6, e6, n6, hk6, l1, l2, l3⟩ := red_num2 w1 w2 w3 w4
  obtain ⟨y1, y2, y3, y4⟩ := add_sz n4 n6
  obtain ⟨X3, Y3, Z3, eX3, nX3⟩ := red_num y1 y2 y3 (by omega)
  have hz5 := n5.pos
  have hz6 := n6.pos
  have E3 : red (a * x5 + b * y5) (a * y5 + b * x5 + b * y5) (m * z5) = tri X3 Y3 Z3 := by
    rw [← eX3, ← red_by (k := k5 * m) (x := k4 * k6 * (x' * z6 + x6 * z')) (y := k4 * k6 * (y' * z6 + y6 * z')) (z := k4 * k6 * (z' * z6)) (Int.mul_pos hk5 hm) (by have := Int.mul_pos hm hz5; omega) (dist3 i1 i2 i3 l1 l2 l3 j1 j2 j3).1 (dist3 i1 i2 i3 l1 l2 l3 j1 j2 j3).2.1 (dist3 i1 i2 i3 l1 l2 l3 j1 j2 j3).2.2]
    exact red_by (Int.mul_pos hk4 hk6) (by omega) rfl rfl rfl
  refine ⟨_, _, _, _, _, _, _, _, rfl, k, o, by decide, ?_⟩
  rw [e5]
  refine ⟨_, _, _, _, _, _, _, _, rfl, h, n5, by decide, ?_⟩
  rw [E3]
  refine ⟨_, _, _, _, _, _, _, _, rfl, h, k, by decide, ?_⟩
  rw [e4]
  refine ⟨_, _, _, _, _, _, _, _, rfl, h, o, by decide, ?_⟩
  rw [e6]
  refine ⟨_, _, _, _, _, _, _, _, rfl, n4, n6, by decide, ?_⟩
  rw [eX3]
  refine same_tri nX3 (by decide) ?_
  simp
  exact ⟨d, l, rfl, rfl, rfl⟩
theorem law_law : ∀ (d l : Addr) (v : V), g_law (some (d, l)) (fun _ => False) (endsD fun r => r = .bl true) (.d (.opq v) :: .d (.opq (.ref d)) :: List.replicate 4 .no) := by
  intro d l v
  simp [g_law]
  refine forG_inv (fun ds σ => ∃ s2 s3 s4 s5, σ = [.d (.opq v), .d (dkD d), s2, s3, s4, s5]) ?_ ?_ _ _ ⟨_, _, _, _, rfl⟩
  · rintro σ ⟨s2, s3, s4, s5, rfl⟩
    simp
    refine dr (by decide) (by decide) fun r r0 r1 => ?_
    have tail := law_tail d l
    by_cases hr : r = 0 <;> simp [hr]
    · refine ⟨d, l, 166, rfl, rfl, by decide, by decide, fun a b m h => ?_⟩
      simp
      refine ⟨d, l, 166, a, b, m, rfl, rfl, by decide, by decide, h, fun c e f k => ?_⟩
      refine ⟨d, l, a, b, m, c, e, f, rfl, rfl, h.up (by decide), k.up (by decide), ?_⟩
      simp
      simpa using tail
    · simpa using tail
  · rintro i ds σ ⟨s2, s3, s4, s5, rfl⟩ E' hrt hbk hnx hct
    simp
    refine ⟨d, l, 5, rfl, rfl, by decide, by decide, fun a b m h => ?_⟩
    simp
    refine ⟨d, l, 5, a, b, m, rfl, rfl, by decide, by decide, h, fun c e f k => ?_⟩
    refine ⟨d, l, a, b, m, c, e, f, rfl, rfl, h.up (by decide), k.up (by decide), ?_⟩
    simp
    exact hnx _ ⟨_, _, _, _, rfl⟩
section
variable {P : Program} {w : World} {K : PySem.W.Frag} {mg : Str → Option Value} {base : Heap}
theorem ok__law_draw {f : Addr} {fd : FuncData} (bt : Bt mg) (hm : mg "_law_draw" = some (.ref f)) (F : Fun K "_law_draw" "_law_draw" (top 25) f fd) : OkD P w K mg base "_law_draw" (top 25) 1 ["_law_deck_here", "_law_many"] spDraw := by
  refine ⟨f, fd, hm, F, okDraw (c := 62989) F sc__law_draw rfl rfl (small64 (by decide) (by decide)) fun cdv A outer s H E hr => ?_⟩
  have hu := hu_of hr
  have h64 := hr.units
  have nd := sc__law_draw.nd
  have it : ∀ {t : Str}, t = t := rfl
  exact pss_cons (ps_dput hu (pv 0) pe_str (pe_op op_add (pe_dget hu (pv 0) pe_str nosl) pe_int) rfl)
    (pss_cons (ps_set (i := 2) nd rfl (Or.inl rfl) (pe_op op_add (pe_dget hu (pv 0) pe_str nosl) (pe_op op_mul pe_int (pe_dget hu (pv 0) pe_str nosl))))
    (pss_cons (ps_if (pt_cmpR (op_neD h64) (pe_dget hu (pv 0) pe_str nosl) (pe_lst pa_nil) (nomark _))
      (pss_cons (ps_set (i := 3) nd rfl (Or.inl rfl) (pe_bm0 PySem.F.plainAttrs_list PySem.F.slot_list_pop PySem.F.type_list_pop mt_pop (pe_dget hu (pv 0) pe_str nosl)))
      (pss_cons (ps_if (pt_cmpR op_ge (pv 3) (pe_op op_pow pe_int pe_int) (nomark _))
        (pss_cons (ps_expr (pe_bm PySem.F.plainAttrs_list PySem.F.slot_list_append PySem.F.type_list_append mt_append (pe_dget hu (pv 0) pe_str nosl) (pa_cons (pe_op op_fdivW (pv 3) (pe_callB (call_max2 rfl) rfl bt.b_max nbMax (pa_cons pe_int (pa_cons (pv 1) pa_nil)))) pa_nil)))
        (pss_one (ps_ret (pe_op op_mod (pe_callTy call_int1 rfl bt.b_int nbInt (pa_cons (pv 3) pa_nil)) (pv 1)))))
        pss_nil)
      (pss_one (ps_set (i := 2) nd rfl (Or.inl rfl) (pe_op op_add (pv 2) (pe_op op_mod (pe_callTy call_int1 rfl bt.b_int nbInt (pa_cons (pv 3) pa_nil)) pe_int))))))
      pss_nil)
    (pss_cons (ps_set (i := 2) nd rfl (Or.inl rfl) (pe_op op_mod (pe_callTy call_int1 rfl bt.b_int nbInt (pa_cons (pe_op op_add (pe_op op_mul (pv 2) pe_int) pe_int) pa_nil)) pe_int))
    (pss_cons (ps_set (i := 2) nd rfl (Or.inl rfl) (pe_op op_mod (pe_callTy call_int1 rfl bt.b_int nbInt (pa_cons (pe_op op_add (pe_op op_add (pe_op op_mul (pv 2) (pv 2)) (pe_op op_mul pe_int (pe_dget hu (pv 0) pe_str nosl))) pe_int) pa_nil)) pe_int))
    (pss_cons (ps_set (i := 2) nd rfl (Or.inl rfl) (pe_op op_mod (pe_callTy call_int1 rfl bt.b_int nbInt (pa_cons (pe_op op_mul (pv 2) pe_int) pa_nil)) pe_int))
    (pss_one (ps_ret (pe_op op_mod (pe_callTy call_int1 rfl bt.b_int nbInt (pa_cons (pe_op op_fdivW (pv 2) pe_int) pa_nil)) (pv 1)))))))))
theorem ok__law_deck {f : Addr} {fd : FuncData} (bt : Bt mg) (F : Fun K "_law_deck" "_law_deck" (top 24) f fd) : FnOk P w K mg base (L2.CX P w) 1 f fd ["_law_script"] (spDeck K) := by
  refine okDeck (c := 10879006) (b := 83) F sc__law_deck rfl rfl (by decide) fun cdv A outer s H E hr => ?_
  have nd := sc__law_deck.nd
  exact pss_cons (ps_set (i := 1) nd rfl (Or.inl rfl) pe_int)
    (pss_cons (ps_for (passes_of rfl) rfl (pi_list (pe_slice sl_list (pv 0) po_none (po_some pe_int))) (pg_name (i := 2) nd rfl (Or.inl rfl))
      (pss_one (ps_set (i := 1) nd rfl (Or.inl rfl) (pe_op op_mod (pe_callTy call_int1 rfl bt.b_int nbInt (pa_cons (pe_op op_add (pe_op op_add (pe_op op_mul (pv 1) pe_int) (pe_op op_mod (pe_callTy call_int1 rfl bt.b_int nbInt (pa_cons (pv 2) pa_nil)) pe_int)) pe_int) pa_nil)) pe_int))))
    (pss_one (ps_ret (pe_disp (pps_cons pe_str (pe_revL (pe_callTy call_list_of rfl bt.b_list nbList (pa_cons (pe_slice sl_list (pv 0) po_none (po_some pe_int)) pa_nil))) (pps_cons pe_str (pv 1) (pps_cons pe_str pe_int pps_nil))) rfl rfl (by simp) (by decide)))))
theorem ok_is_integer {f : Addr} {fd : FuncData} (bt : Bt mg) (ct : Ct K mg) (hm : mg "is_integer" = some (.ref f)) (F : Fun K "is_integer" "is_integer" (top 6) f fd)  : OkD P w K mg base "is_integer" (top 6) 1 ["thing"] sp_is_integer := by
  refine ⟨f, fd, hm, F, okD (g := g_is_integer) F sc_is_integer len_is_integer (fun cdv A outer s H E W F R hr hE hp hx => ?_) law_is_integer⟩
  have nd := sc_is_integer.nd
  have hu65 := hu65_of hr
  exact (sds_one (sd_ret (ed_and (ed_callB c_isi (by rfl) bt.b_isinstance nbIsi (abd_cons (ed_var 0 (pv 0)).toB (abd_cons (ed_ty (by rfl) bt.b_int nbInt).toB abd_nil))) (ed_one (ed_not (ed_callB c_isi (by rfl) bt.b_isinstance nbIsi (abd_cons (ed_var 0 (pv 0)).toB (abd_cons (ed_ty (by rfl) bt.b_bool nbBool).toB abd_nil))).toB)))))
theorem ok_normal {f : Addr} {fd : FuncData} (bt : Bt mg) (ct : Ct K mg) (hm : mg "normal" = some (.ref f)) (F : Fun K "normal" "normal" (top 8) f fd)  : OkD P w K mg base "normal" (top 8) 1 ["a", "b", "d"] sp_normal := by
  refine ⟨f, fd, hm, F, okD (g := g_normal) F sc_normal len_normal (fun cdv A outer s H E W F R hr hE hp hx => ?_) law_normal⟩
  have nd := sc_normal.nd
  have hu65 := hu65_of hr
  exact (sds_cons (sd_set (i := 3) nd rfl (Or.inl rfl) (ed_callFun c_gcd (by rfl) bt.f_gcd (abd_cons (ed_callFun c_gcd (by rfl) bt.f_gcd (abd_cons (ed_var 0 (pv 0)).toB (abd_cons (ed_var 1 (pv 1)).toB abd_nil))).toB (abd_cons (ed_var 2 (pv 2)).toB abd_nil))))
      (sds_cons (sd_if (td_cmp o_lt (ed_var 2 (pv 2)).toB ed_int.toB (nomark _)) (sds_one (sd_set (i := 3) nd rfl (Or.inl rfl) (ed_un o_neg (ed_var 3 (pv 3)).toB))) sds_nil)
      (sds_one (sd_ret (ed_tup (ad_cons (ed_bin o_fdivA (ed_var 0 (pv 0)).toB (ed_var 3 (pv 3)).toB) (ad_cons (ed_bin o_fdivA (ed_var 1 (pv 1)).toB (ed_var 3 (pv 3)).toB) (ad_cons (ed_bin o_fdivA (ed_var 2 (pv 2)).toB (ed_var 3 (pv 3)).toB) ad_nil))))))))
theorem ok_negative {f : Addr} {fd : FuncData} (bt : Bt mg) (ct : Ct K mg) (hm : mg "negative" = some (.ref f)) (F : Fun K "negative" "negative" (top 9) f fd)  : OkD P w K mg base "negative" (top 9) 1 ["one"] sp_negative := by
  refine ⟨f, fd, hm, F, okD (g := g_negative) F sc_negative len_negative (fun cdv A outer s H E W F R hr hE hp hx => ?_) law_negative⟩
  have nd := sc_negative.nd
  have hu65 := hu65_of hr
  exact (sds_one (sd_ret (ed_tup (ad_cons (ed_un o_neg (ed_ix (ed_var 0 (pv 0)).toB ed_int.toB).toB) (ad_cons (ed_un o_neg (ed_ix (ed_var 0 (pv 0)).toB ed_int.toB).toB) (ad_cons (ed_ix (ed_var 0 (pv 0)).toB ed_int.toB) ad_nil))))))
theorem ok__law_common {f : Addr} {fd : FuncData} (bt : Bt mg) (ct : Ct K mg) (hm : mg "_law_common" = some (.ref f)) (F : Fun K "_law_common" "_law_common" (top 28) f fd)  : OkD P w K mg base "_law_common" (top 28) 1 ["_law_a", "_law_b"] sp__law_common := by
  refine ⟨f, fd, hm, F, okD (g := g__law_common) F sc__law_common len__law_common (fun cdv A outer s H E W F R hr hE hp hx => ?_) law__law_common⟩
  have nd := sc__law_common.nd
  have hu65 := hu65_of hr
  exact (sds_cons (sd_par2 (i := 2) (j := 3) rfl nd rfl rfl (by decide) rfl rfl (ad_cons (ed_callB c_abs (by rfl) bt.b_abs nbAbs (abd_cons (ed_var 0 (pv 0)).toB abd_nil)) (ad_cons (ed_callB c_abs (by rfl) bt.b_abs nbAbs (abd_cons (ed_var 1 (pv 1)).toB abd_nil)) ad_nil)) (by rfl))
      (sds_cons (sd_while hp (td_cmp (o_ne hr.units) (ed_var 3 (pv 3)).toB ed_int.toB (nomark _)) (sds_one (sd_par2 (i := 2) (j := 3) rfl nd rfl rfl (by decide) rfl rfl (ad_cons (ed_var 3 (pv 3)) (ad_cons (ed_bin o_mod (ed_callTy (c_intB ct.dig) (by rfl) bt.b_int nbInt (abd_cons (ed_var 2 (pv 2)).toB abd_nil)).toB (ed_var 3 (pv 3)).toB) ad_nil)) (by rfl))))
      (sds_one (sd_ret (ed_var 2 (pv 2))))))
theorem ok__law_same {f : Addr} {fd : FuncData} (bt : Bt mg) (ct : Ct K mg) (hm : mg "_law_same" = some (.ref f)) (F : Fun K "_law_same" "_law_same" (top 30) f fd)  : OkG P w K mg base "_law_same" (top 30) 1 ["_law_told", "_law_due"] sp__law_same := by
  refine ⟨f, fd, hm, F, okG (g := g__law_same) F sc__law_same len__law_same (fun cdv A outer s H E W F R hG hr hE hp hx => ?_) law__law_same⟩
  have nd := sc__law_same.nd
  have hu65 := hu65_of hr
  exact (sds_one (sd_ret (ed_cmp (o_eq hr.units) (ed_callB (c_reprB ct.dig hG hu65) (by rfl) bt.b_repr nbRepr (abd_cons (ed_var 0 (pv 0)).toB abd_nil)).toB (ed_callB (c_reprB ct.dig hG hu65) (by rfl) bt.b_repr nbRepr (abd_cons (ed_var 1 (pv 1)).toB abd_nil)).toB (nomark _))))
theorem ok__law_opposite {f : Addr} {fd : FuncData} (bt : Bt mg) (ct : Ct K mg) (hm : mg "_law_opposite" = some (.ref f)) (F : Fun K "_law_opposite" "_law_opposite" (top 32) f fd)  : OkD P w K mg base "_law_opposite" (top 32) 1 ["_law_p"] sp__law_opposite := by
  refine ⟨f, fd, hm, F, okD (g := g__law_opposite) F sc__law_opposite len__law_opposite (fun cdv A outer s H E W F R hr hE hp hx => ?_) law__law_opposite⟩
  have nd := sc__law_opposite.nd
  have hu65 := hu65_of hr
  exact (sds_one (sd_ret (ed_tup (ad_cons (ed_un o_neg (ed_ix (ed_var 0 (pv 0)).toB ed_int.toB).toB) (ad_cons (ed_un o_neg (ed_ix (ed_var 0 (pv 0)).toB ed_int.toB).toB) (ad_cons (ed_ix (ed_var 0 (pv 0)).toB ed_int.toB) ad_nil))))))
theorem ok_is_number {f : Addr} {fd : FuncData} (bt : Bt mg) (ct : Ct K mg) (hm : mg "is_number" = some (.ref f)) (F : Fun K "is_number" "is_number" (top 7) f fd) (O_is_integer : OkD P w K mg base "is_integer" (top 6) 1 ["thing"] sp_is_integer) : OkD P w K mg base "is_number" (top 7) 2 ["thing"] sp_is_number := by
  refine ⟨f, fd, hm, F, okD (g := g_is_number) F sc_is_number len_is_number (fun cdv A outer s H E W F R hr hE hp hx => ?_) law_is_number⟩
  have nd := sc_is_number.nd
  have hu65 := hu65_of hr
  exact (sds_cons (sd_if (wd_or (td_not (td_val (ed_callB c_isi (by rfl) bt.b_isinstance nbIsi (abd_cons (ed_var 0 (pv 0)).toB (abd_cons (ed_ty (by rfl) bt.b_tuple nbTuple).toB abd_nil))).toB)) (wd_or1 (td_cmp (o_ne hr.units) (ed_callB c_len (by rfl) bt.b_len nbLen (abd_cons (ed_var 0 (pv 0)).toB abd_nil)).toB ed_int.toB (nomark _)))).t (sds_one (sd_ret ed_bl)) sds_nil)
      (sds_one (sd_ret (ed_and (ed_o (k := 1) O_is_integer bp_is_integer (hr.mono (by decide)) hx hE (ad_cons (ed_ix (ed_var 0 (pv 0)).toB ed_int.toB) ad_nil)) (ed_and (ed_o (k := 1) O_is_integer bp_is_integer (hr.mono (by decide)) hx hE (ad_cons (ed_ix (ed_var 0 (pv 0)).toB ed_int.toB) ad_nil)) (ed_and (ed_o (k := 1) O_is_integer bp_is_integer (hr.mono (by decide)) hx hE (ad_cons (ed_ix (ed_var 0 (pv 0)).toB ed_int.toB) ad_nil)) (ed_one (ed_cmp o_ge (ed_ix (ed_var 0 (pv 0)).toB ed_int.toB).toB ed_int.toB (nomark _)))))))))
theorem ok_added {f : Addr} {fd : FuncData} (bt : Bt mg) (ct : Ct K mg) (hm : mg "added" = some (.ref f)) (F : Fun K "added" "added" (top 10) f fd) (O_normal : OkD P w K mg base "normal" (top 8) 1 ["a", "b", "d"] sp_normal) : OkD P w K mg base "added" (top 10) 2 ["one", "other"] sp_added := by
  refine ⟨f, fd, hm, F, okD (g := g_added) F sc_added len_added (fun cdv A outer s H E W F R hr hE hp hx => ?_) law_added⟩
  have nd := sc_added.nd
  have hu65 := hu65_of hr
  exact (sds_cons (sd_set (i := 2) nd rfl (Or.inl rfl) (ed_bin o_mul (ed_ix (ed_var 0 (pv 0)).toB ed_int.toB).toB (ed_ix (ed_var 1 (pv 1)).toB ed_int.toB).toB))
      (sds_one (sd_ret (ed_o (k := 1) O_normal bp_normal (hr.mono (by decide)) hx hE (ad_cons (ed_bin o_add (ed_bin o_mul (ed_ix (ed_var 0 (pv 0)).toB ed_int.toB).toB (ed_ix (ed_var 1 (pv 1)).toB ed_int.toB).toB).toB (ed_bin o_mul (ed_ix (ed_var 1 (pv 1)).toB ed_int.toB).toB (ed_ix (ed_var 0 (pv 0)).toB ed_int.toB).toB).toB) (ad_cons (ed_bin o_add (ed_bin o_mul (ed_ix (ed_var 0 (pv 0)).toB ed_int.toB).toB (ed_ix (ed_var 1 (pv 1)).toB ed_int.toB).toB).toB (ed_bin o_mul (ed_ix (ed_var 1 (pv 1)).toB ed_int.toB).toB (ed_ix (ed_var 0 (pv 0)).toB ed_int.toB).toB).toB) (ad_cons (ed_var 2 (pv 2)) ad_nil)))))))
theorem ok_multiplied {f : Addr} {fd : FuncData} (bt : Bt mg) (ct : Ct K mg) (hm : mg "multiplied" = some (.ref f)) (F : Fun K "multiplied" "multiplied" (top 12) f fd) (O_normal : OkD P w K mg base "normal" (top 8) 1 ["a", "b", "d"] sp_normal) : OkD P w K mg base "multiplied" (top 12) 2 ["one", "other"] sp_multiplied := by
  refine ⟨f, fd, hm, F, okD (g := g_multiplied) F sc_multiplied len_multiplied (fun cdv A outer s H E W F R hr hE hp hx => ?_) law_multiplied⟩
  have nd := sc_multiplied.nd
  have hu65 := hu65_of hr
  exact (sds_cons (sd_setT (is := [2, 3, 4, 5]) rfl (na_cons (pg_name (i := 2) nd rfl (Or.inl rfl)) (na_cons (pg_name (i := 3) nd rfl (Or.inl rfl)) (na_cons (pg_name (i := 4) nd rfl (Or.inl rfl)) (na_cons (pg_name (i := 5) nd rfl (Or.inl rfl)) na_nil)))) (ed_tup (ad_cons (ed_ix (ed_var 0 (pv 0)).toB ed_int.toB) (ad_cons (ed_ix (ed_var 0 (pv 0)).toB ed_int.toB) (ad_cons (ed_ix (ed_var 1 (pv 1)).toB ed_int.toB) (ad_cons (ed_ix (ed_var 1 (pv 1)).toB ed_int.toB) ad_nil))))))
      (sds_one (sd_ret (ed_o (k := 1) O_normal bp_normal (hr.mono (by decide)) hx hE (ad_cons (ed_bin o_add (ed_bin o_mul (ed_var 2 (pv 2)).toB (ed_var 4 (pv 4)).toB).toB (ed_bin o_mul (ed_var 3 (pv 3)).toB (ed_var 5 (pv 5)).toB).toB) (ad_cons (ed_bin o_add (ed_bin o_add (ed_bin o_mul (ed_var 2 (pv 2)).toB (ed_var 5 (pv 5)).toB).toB (ed_bin o_mul (ed_var 3 (pv 3)).toB (ed_var 4 (pv 4)).toB).toB).toB (ed_bin o_mul (ed_var 3 (pv 3)).toB (ed_var 5 (pv 5)).toB).toB) (ad_cons (ed_bin o_mul (ed_ix (ed_var 0 (pv 0)).toB ed_int.toB).toB (ed_ix (ed_var 1 (pv 1)).toB ed_int.toB).toB) ad_nil)))))))
theorem ok__law_pick {f : Addr} {fd : FuncData} (bt : Bt mg) (ct : Ct K mg) (hm : mg "_law_pick" = some (.ref f)) (F : Fun K "_law_pick" "_law_pick" (top 26) f fd) (O__law_draw : OkD P w K mg base "_law_draw" (top 25) 1 ["_law_deck_here", "_law_many"] spDraw) : OkD P w K mg base "_law_pick" (top 26) 2 ["_law_deck_here", "_law_some"] sp__law_pick := by
  refine ⟨f, fd, hm, F, okD (g := g__law_pick) F sc__law_pick len__law_pick (fun cdv A outer s H E W F R hr hE hp hx => ?_) law__law_pick⟩
  have nd := sc__law_pick.nd
  have hu65 := hu65_of hr
  exact (sds_one (sd_ret (ed_ix (ed_var 1 (pv 1)).toB (ed_o (k := 1) O__law_draw bp__law_draw (hr.mono (by decide)) hx hE (ad_cons (ed_var 0 (pv 0)) (ad_cons (ed_callB c_len (by rfl) bt.b_len nbLen (abd_cons (ed_var 1 (pv 1)).toB abd_nil)) ad_nil))).toB)))
theorem ok__law_integer {f : Addr} {fd : FuncData} (bt : Bt mg) (ct : Ct K mg) (hm : mg "_law_integer" = some (.ref f)) (F : Fun K "_law_integer" "_law_integer" (top 27) f fd) (O__law_draw : OkD P w K mg base "_law_draw" (top 25) 1 ["_law_deck_here", "_law_many"] spDraw) : OkD P w K mg base "_law_integer" (top 27) 2 ["_law_deck_here", "_law_pieces"] sp__law_integer := by
  refine ⟨f, fd, hm, F, okD (g := g__law_integer) F sc__law_integer len__law_integer (fun cdv A outer s H E W F R hr hE hp hx => ?_) law__law_integer⟩
  have nd := sc__law_integer.nd
  have hu65 := hu65_of hr
  exact (sds_cons (sd_par3 (i := 2) (j := 3) (l := 4) rfl nd rfl rfl rfl (by decide) (by decide) (by decide) rfl rfl rfl (ad_cons (ed_o (k := 1) O__law_draw bp__law_draw (hr.mono (by decide)) hx hE (ad_cons (ed_var 0 (pv 0)) (ad_cons ed_int ad_nil))) (ad_cons (ed_bin o_sub ed_int.toB (ed_bin o_mul ed_int.toB (ed_o (k := 1) O__law_draw bp__law_draw (hr.mono (by decide)) hx hE (ad_cons (ed_var 0 (pv 0)) (ad_cons ed_int ad_nil))).toB).toB) (ad_cons ed_int ad_nil))) (by rfl))
      (sds_cons (sd_if (td_cmp o_lt (ed_var 2 (pv 2)).toB ed_int.toB (nomark _)) (sds_one (sd_ret (ed_bin o_mul (ed_var 3 (pv 3)).toB (ed_o (k := 1) O__law_draw bp__law_draw (hr.mono (by decide)) hx hE (ad_cons (ed_var 0 (pv 0)) (ad_cons (ed_ix (ed_tup (ad_cons ed_int (ad_cons ed_int (ad_cons ed_int (ad_cons ed_int (ad_cons ed_int (ad_cons ed_int ad_nil))))))).toB (ed_var 2 (pv 2)).toB) ad_nil))).toB))) sds_nil)
      (sds_cons (sd_if (td_cmp (o_eq hr.units) (ed_var 2 (pv 2)).toB ed_int.toB (nomark _)) (sds_one (sd_ret (ed_bin o_mul (ed_var 3 (pv 3)).toB (ed_bin o_sub (ed_callTy (c_intB ct.dig) (by rfl) bt.b_int nbInt (abd_cons (ed_bin o_repS ed_str.toB (ed_bin o_mul ed_int.toB (ed_var 1 (pv 1)).toB).toB).toB abd_nil)).toB (ed_o (k := 1) O__law_draw bp__law_draw (hr.mono (by decide)) hx hE (ad_cons (ed_var 0 (pv 0)) (ad_cons ed_int ad_nil))).toB).toB))) sds_nil)
      (sds_cons (sd_for hp rfl (pid_rng1 (by rfl) bt.b_range (ad_cons (ed_bin o_add ed_int.toB (ed_o (k := 1) O__law_draw bp__law_draw (hr.mono (by decide)) hx hE (ad_cons (ed_var 0 (pv 0)) (ad_cons (ed_var 1 (pv 1)) ad_nil))).toB) ad_nil)) (gd_name (pg_name (i := 5) nd rfl (Or.inl rfl))) (sds_one (sd_set (i := 4) nd rfl (Or.inl rfl) (ed_bin o_add (ed_bin o_mul (ed_var 4 (pv 4)).toB (ed_bin o_pow ed_int.toB ed_int.toB).toB).toB (ed_o (k := 1) O__law_draw bp__law_draw (hr.mono (by decide)) hx hE (ad_cons (ed_var 0 (pv 0)) (ad_cons (ed_bin o_pow ed_int.toB ed_int.toB) ad_nil))).toB))))
      (sds_one (sd_ret (ed_bin o_mul (ed_var 3 (pv 3)).toB (ed_var 4 (pv 4)).toB)))))))
theorem ok__law_least {f : Addr} {fd : FuncData} (bt : Bt mg) (ct : Ct K mg) (hm : mg "_law_least" = some (.ref f)) (F : Fun K "_law_least" "_law_least" (top 29) f fd) (O__law_common : OkD P w K mg base "_law_common" (top 28) 1 ["_law_a", "_law_b"] sp__law_common) : OkD P w K mg base "_law_least" (top 29) 2 ["_law_a", "_law_b", "_law_d"] sp__law_least := by
  refine ⟨f, fd, hm, F, okD (g := g__law_least) F sc__law_least len__law_least (fun cdv A outer s H E W F R hr hE hp hx => ?_) law__law_least⟩
  have nd := sc__law_least.nd
  have hu65 := hu65_of hr
  exact (sds_cons (sd_set (i := 3) nd rfl (Or.inl rfl) (ed_o (k := 1) O__law_common bp__law_common (hr.mono (by decide)) hx hE (ad_cons (ed_o (k := 1) O__law_common bp__law_common (hr.mono (by decide)) hx hE (ad_cons (ed_var 0 (pv 0)) (ad_cons (ed_var 1 (pv 1)) ad_nil))) (ad_cons (ed_var 2 (pv 2)) ad_nil))))
      (sds_one (sd_ret (ed_tup (ad_cons (ed_bin o_fdivA (ed_var 0 (pv 0)).toB (ed_var 3 (pv 3)).toB) (ad_cons (ed_bin o_fdivA (ed_var 1 (pv 1)).toB (ed_var 3 (pv 3)).toB) (ad_cons (ed_bin o_fdivA (ed_var 2 (pv 2)).toB (ed_var 3 (pv 3)).toB) ad_nil)))))))
theorem ok_taken {f : Addr} {fd : FuncData} (bt : Bt mg) (ct : Ct K mg) (hm : mg "taken" = some (.ref f)) (F : Fun K "taken" "taken" (top 11) f fd) (O_added : OkD P w K mg base "added" (top 10) 2 ["one", "other"] sp_added) (O_negative : OkD P w K mg base "negative" (top 9) 1 ["one"] sp_negative) : OkD P w K mg base "taken" (top 11) 3 ["one", "other"] sp_taken := by
  refine ⟨f, fd, hm, F, okD (g := g_taken) F sc_taken len_taken (fun cdv A outer s H E W F R hr hE hp hx => ?_) law_taken⟩
  have nd := sc_taken.nd
  have hu65 := hu65_of hr
  exact (sds_one (sd_ret (ed_o (k := 2) O_added bp_added (hr.mono (by decide)) hx hE (ad_cons (ed_var 0 (pv 0)) (ad_cons (ed_o (k := 1) O_negative bp_negative (hr.mono (by decide)) hx hE (ad_cons (ed_var 1 (pv 1)) ad_nil)) ad_nil)))))
theorem ok_divided {f : Addr} {fd : FuncData} (bt : Bt mg) (ct : Ct K mg) (hm : mg "divided" = some (.ref f)) (F : Fun K "divided" "divided" (top 13) f fd) (O_multiplied : OkD P w K mg base "multiplied" (top 12) 2 ["one", "other"] sp_multiplied) (O_normal : OkD P w K mg base "normal" (top 8) 1 ["a", "b", "d"] sp_normal) : OkD P w K mg base "divided" (top 13) 3 ["one", "other"] sp_divided := by
  refine ⟨f, fd, hm, F, okD (g := g_divided) F sc_divided len_divided (fun cdv A outer s H E W F R hr hE hp hx => ?_) law_divided⟩
  have nd := sc_divided.nd
  have hu65 := hu65_of hr
  exact (sds_cons (sd_par2 (i := 2) (j := 3) rfl nd rfl rfl (by decide) rfl rfl (ad_cons (ed_ix (ed_var 1 (pv 1)).toB ed_int.toB) (ad_cons (ed_ix (ed_var 1 (pv 1)).toB ed_int.toB) ad_nil)) (by rfl))
      (sds_cons (sd_set (i := 4) nd rfl (Or.inl rfl) (ed_o (k := 2) O_multiplied bp_multiplied (hr.mono (by decide)) hx hE (ad_cons (ed_tup (ad_cons (ed_ix (ed_var 0 (pv 0)).toB ed_int.toB) (ad_cons (ed_ix (ed_var 0 (pv 0)).toB ed_int.toB) (ad_cons ed_int ad_nil)))) (ad_cons (ed_tup (ad_cons (ed_bin o_add (ed_var 2 (pv 2)).toB (ed_var 3 (pv 3)).toB) (ad_cons (ed_un o_neg (ed_var 3 (pv 3)).toB) (ad_cons ed_int ad_nil)))) ad_nil))))
      (sds_cons (sd_set (i := 5) nd rfl (Or.inl rfl) (ed_bin o_sub (ed_bin o_add (ed_bin o_mul (ed_var 2 (pv 2)).toB (ed_var 2 (pv 2)).toB).toB (ed_bin o_mul (ed_var 2 (pv 2)).toB (ed_var 3 (pv 3)).toB).toB).toB (ed_bin o_mul (ed_var 3 (pv 3)).toB (ed_var 3 (pv 3)).toB).toB))
      (sds_one (sd_ret (ed_o (k := 1) O_normal bp_normal (hr.mono (by decide)) hx hE (ad_cons (ed_bin o_mul (ed_ix (ed_var 4 (pv 4)).toB ed_int.toB).toB (ed_ix (ed_var 1 (pv 1)).toB ed_int.toB).toB) (ad_cons (ed_bin o_mul (ed_ix (ed_var 4 (pv 4)).toB ed_int.toB).toB (ed_ix (ed_var 1 (pv 1)).toB ed_int.toB).toB) (ad_cons (ed_bin o_mul (ed_var 5 (pv 5)).toB (ed_ix (ed_var 0 (pv 0)).toB ed_int.toB).toB) ad_nil)))))))))
theorem ok_need_numbers {f : Addr} {fd : FuncData} (bt : Bt mg) (ct : Ct K mg) (hm : mg "need_numbers" = some (.ref f)) (F : Fun K "need_numbers" "need_numbers" (top 15) f fd) (O_is_number : OkD P w K mg base "is_number" (top 7) 2 ["thing"] sp_is_number) : OkD P w K mg base "need_numbers" (top 15) 3 ["things"] sp_need_numbers := by
  refine ⟨f, fd, hm, F, okD (g := g_need_numbers) F sc_need_numbers len_need_numbers (fun cdv A outer s H E W F R hr hE hp hx => ?_) law_need_numbers⟩
  have nd := sc_need_numbers.nd
  have hu65 := hu65_of hr
  exact (sds_one (sd_for hp rfl (pid_data (ed_var 0 (pv 0))) (gd_name (pg_name (i := 1) nd rfl (Or.inl rfl))) (sds_one (sd_if (td_not (td_val (ed_o (k := 2) O_is_number bp_is_number (hr.mono (by decide)) hx hE (ad_cons (ed_var 1 (pv 1)) ad_nil)).toB)) (sds_one sd_never) sds_nil))))
theorem ok_is_golden {f : Addr} {fd : FuncData} (bt : Bt mg) (ct : Ct K mg) (hm : mg "is_golden" = some (.ref f)) (F : Fun K "is_golden" "is_golden" (top 16) f fd) (O_is_number : OkD P w K mg base "is_number" (top 7) 2 ["thing"] sp_is_number) : OkD P w K mg base "is_golden" (top 16) 3 ["thing"] sp_is_golden := by
  refine ⟨f, fd, hm, F, okD (g := g_is_golden) F sc_is_golden len_is_golden (fun cdv A outer s H E W F R hr hE hp hx => ?_) law_is_golden⟩
  have nd := sc_is_golden.nd
  have hu65 := hu65_of hr
  exact (sds_one (sd_ret (ed_o (k := 2) O_is_number bp_is_number (hr.mono (by decide)) hx hE (ad_cons (ed_var 0 (pv 0)) ad_nil))))
theorem ok__law_plus {f : Addr} {fd : FuncData} (bt : Bt mg) (ct : Ct K mg) (hm : mg "_law_plus" = some (.ref f)) (F : Fun K "_law_plus" "_law_plus" (top 31) f fd) (O__law_least : OkD P w K mg base "_law_least" (top 29) 2 ["_law_a", "_law_b", "_law_d"] sp__law_least) : OkD P w K mg base "_law_plus" (top 31) 3 ["_law_p", "_law_q"] sp__law_plus := by
  refine ⟨f, fd, hm, F, okD (g := g__law_plus) F sc__law_plus len__law_plus (fun cdv A outer s H E W F R hr hE hp hx => ?_) law__law_plus⟩
  have nd := sc__law_plus.nd
  have hu65 := hu65_of hr
  exact (sds_one (sd_ret (ed_o (k := 2) O__law_least bp__law_least (hr.mono (by decide)) hx hE (ad_cons (ed_bin o_add (ed_bin o_mul (ed_ix (ed_var 0 (pv 0)).toB ed_int.toB).toB (ed_ix (ed_var 1 (pv 1)).toB ed_int.toB).toB).toB (ed_bin o_mul (ed_ix (ed_var 1 (pv 1)).toB ed_int.toB).toB (ed_ix (ed_var 0 (pv 0)).toB ed_int.toB).toB).toB) (ad_cons (ed_bin o_add (ed_bin o_mul (ed_ix (ed_var 0 (pv 0)).toB ed_int.toB).toB (ed_ix (ed_var 1 (pv 1)).toB ed_int.toB).toB).toB (ed_bin o_mul (ed_ix (ed_var 1 (pv 1)).toB ed_int.toB).toB (ed_ix (ed_var 0 (pv 0)).toB ed_int.toB).toB).toB) (ad_cons (ed_bin o_mul (ed_ix (ed_var 0 (pv 0)).toB ed_int.toB).toB (ed_ix (ed_var 1 (pv 1)).toB ed_int.toB).toB) ad_nil))))))
theorem ok__law_times {f : Addr} {fd : FuncData} (bt : Bt mg) (ct : Ct K mg) (hm : mg "_law_times" = some (.ref f)) (F : Fun K "_law_times" "_law_times" (top 33) f fd) (O__law_least : OkD P w K mg base "_law_least" (top 29) 2 ["_law_a", "_law_b", "_law_d"] sp__law_least) : OkD P w K mg base "_law_times" (top 33) 3 ["_law_p", "_law_q"] sp__law_times := by
  refine ⟨f, fd, hm, F, okD (g := g__law_times) F sc__law_times len__law_times (fun cdv A outer s H E W F R hr hE hp hx => ?_) law__law_times⟩
  have nd := sc__law_times.nd
  have hu65 := hu65_of hr
  exact (sds_cons (sd_setG (gd_tupG rfl (gds_cons (gd_tupG rfl (gds_cons (gd_name (pg_name (i := 2) nd rfl (Or.inl rfl))) (gds_cons (gd_name (pg_name (i := 3) nd rfl (Or.inl rfl))) (gds_cons (gd_name (pg_name (i := 4) nd rfl (Or.inl rfl))) gds_nil)))) (gds_cons (gd_tupG rfl (gds_cons (gd_name (pg_name (i := 5) nd rfl (Or.inl rfl))) (gds_cons (gd_name (pg_name (i := 6) nd rfl (Or.inl rfl))) (gds_cons (gd_name (pg_name (i := 7) nd rfl (Or.inl rfl))) gds_nil)))) gds_nil))) (ed_tup (ad_cons (ed_var 0 (pv 0)) (ad_cons (ed_var 1 (pv 1)) ad_nil))))
      (sds_one (sd_ret (ed_o (k := 2) O__law_least bp__law_least (hr.mono (by decide)) hx hE (ad_cons (ed_bin o_add (ed_bin o_mul (ed_var 2 (pv 2)).toB (ed_var 5 (pv 5)).toB).toB (ed_bin o_mul (ed_var 3 (pv 3)).toB (ed_var 6 (pv 6)).toB).toB) (ad_cons (ed_bin o_add (ed_bin o_add (ed_bin o_mul (ed_var 2 (pv 2)).toB (ed_var 6 (pv 6)).toB).toB (ed_bin o_mul (ed_var 3 (pv 3)).toB (ed_var 5 (pv 5)).toB).toB).toB (ed_bin o_mul (ed_var 3 (pv 3)).toB (ed_var 6 (pv 6)).toB).toB) (ad_cons (ed_bin o_mul (ed_var 4 (pv 4)).toB (ed_var 7 (pv 7)).toB) ad_nil)))))))
theorem ok__law_quotient {f : Addr} {fd : FuncData} (bt : Bt mg) (ct : Ct K mg) (hm : mg "_law_quotient" = some (.ref f)) (F : Fun K "_law_quotient" "_law_quotient" (top 34) f fd) (O__law_least : OkD P w K mg base "_law_least" (top 29) 2 ["_law_a", "_law_b", "_law_d"] sp__law_least) : OkD P w K mg base "_law_quotient" (top 34) 3 ["_law_p", "_law_q"] sp__law_quotient := by
  refine ⟨f, fd, hm, F, okD (g := g__law_quotient) F sc__law_quotient len__law_quotient (fun cdv A outer s H E W F R hr hE hp hx => ?_) law__law_quotient⟩
  have nd := sc__law_quotient.nd
  have hu65 := hu65_of hr
  exact (sds_cons (sd_setG (gd_tupG rfl (gds_cons (gd_tupG rfl (gds_cons (gd_name (pg_name (i := 2) nd rfl (Or.inl rfl))) (gds_cons (gd_name (pg_name (i := 3) nd rfl (Or.inl rfl))) (gds_cons (gd_name (pg_name (i := 4) nd rfl (Or.inl rfl))) gds_nil)))) (gds_cons (gd_tupG rfl (gds_cons (gd_name (pg_name (i := 5) nd rfl (Or.inl rfl))) (gds_cons (gd_name (pg_name (i := 6) nd rfl (Or.inl rfl))) (gds_cons (gd_name (pg_name (i := 7) nd rfl (Or.inl rfl))) gds_nil)))) gds_nil))) (ed_tup (ad_cons (ed_var 0 (pv 0)) (ad_cons (ed_var 1 (pv 1)) ad_nil))))
      (sds_cons (sd_set (i := 8) nd rfl (Or.inl rfl) (ed_bin o_sub (ed_bin o_add (ed_bin o_mul (ed_var 5 (pv 5)).toB (ed_var 5 (pv 5)).toB).toB (ed_bin o_mul (ed_var 5 (pv 5)).toB (ed_var 6 (pv 6)).toB).toB).toB (ed_bin o_mul (ed_var 6 (pv 6)).toB (ed_var 6 (pv 6)).toB).toB))
      (sds_cons (sd_set (i := 9) nd rfl (Or.inl rfl) (ed_if (td_cmp o_gt (ed_var 8 (pv 8)).toB ed_int.toB (nomark _)) ed_int (ed_un o_neg ed_int.toB)))
      (sds_one (sd_ret (ed_o (k := 2) O__law_least bp__law_least (hr.mono (by decide)) hx hE (ad_cons (ed_bin o_mul (ed_bin o_mul (ed_var 9 (pv 9)).toB (ed_var 7 (pv 7)).toB).toB (ed_bin o_sub (ed_bin o_mul (ed_var 2 (pv 2)).toB (ed_bin o_add (ed_var 5 (pv 5)).toB (ed_var 6 (pv 6)).toB).toB).toB (ed_bin o_mul (ed_var 3 (pv 3)).toB (ed_var 6 (pv 6)).toB).toB).toB) (ad_cons (ed_bin o_mul (ed_bin o_mul (ed_var 9 (pv 9)).toB (ed_var 7 (pv 7)).toB).toB (ed_bin o_sub (ed_bin o_mul (ed_var 3 (pv 3)).toB (ed_var 5 (pv 5)).toB).toB (ed_bin o_mul (ed_var 2 (pv 2)).toB (ed_var 6 (pv 6)).toB).toB).toB) (ad_cons (ed_bin o_mul (ed_bin o_mul (ed_var 9 (pv 9)).toB (ed_var 8 (pv 8)).toB).toB (ed_var 4 (pv 4)).toB) ad_nil)))))))))
theorem ok__law_conjugate {f : Addr} {fd : FuncData} (bt : Bt mg) (ct : Ct K mg) (hm : mg "_law_conjugate" = some (.ref f)) (F : Fun K "_law_conjugate" "_law_conjugate" (top 35) f fd) (O__law_least : OkD P w K mg base "_law_least" (top 29) 2 ["_law_a", "_law_b", "_law_d"] sp__law_least) : OkD P w K mg base "_law_conjugate" (top 35) 3 ["_law_p"] sp__law_conjugate := by
  refine ⟨f, fd, hm, F, okD (g := g__law_conjugate) F sc__law_conjugate len__law_conjugate (fun cdv A outer s H E W F R hr hE hp hx => ?_) law__law_conjugate⟩
  have nd := sc__law_conjugate.nd
  have hu65 := hu65_of hr
  exact (sds_one (sd_ret (ed_o (k := 2) O__law_least bp__law_least (hr.mono (by decide)) hx hE (ad_cons (ed_bin o_add (ed_ix (ed_var 0 (pv 0)).toB ed_int.toB).toB (ed_ix (ed_var 0 (pv 0)).toB ed_int.toB).toB) (ad_cons (ed_un o_neg (ed_ix (ed_var 0 (pv 0)).toB ed_int.toB).toB) (ad_cons (ed_ix (ed_var 0 (pv 0)).toB ed_int.toB) ad_nil))))))
theorem ok__law_golden {f : Addr} {fd : FuncData} (bt : Bt mg) (ct : Ct K mg) (hm : mg "_law_golden" = some (.ref f)) (F : Fun K "_law_golden" "_law_golden" (top 36) f fd) (O__law_pick : OkD P w K mg base "_law_pick" (top 26) 2 ["_law_deck_here", "_law_some"] sp__law_pick) (O__law_integer : OkD P w K mg base "_law_integer" (top 27) 2 ["_law_deck_here", "_law_pieces"] sp__law_integer) : OkD P w K mg base "_law_golden" (top 36) 3 ["_law_deck_here", "_law_pieces"] sp__law_golden := by
  refine ⟨f, fd, hm, F, okD (g := g__law_golden) F sc__law_golden len__law_golden (fun cdv A outer s H E W F R hr hE hp hx => ?_) law__law_golden⟩
  have nd := sc__law_golden.nd
  have hu65 := hu65_of hr
  exact (sds_cons (sd_set (i := 2) nd rfl (Or.inl rfl) (ed_o (k := 2) O__law_pick bp__law_pick (hr.mono (by decide)) hx hE (ad_cons (ed_var 0 (pv 0)) (ad_cons (ed_tup (ad_cons ed_int (ad_cons ed_int (ad_cons ed_int (ad_cons ed_int (ad_cons ed_int (ad_cons ed_int (ad_cons ed_int (ad_cons ed_int (ad_cons ed_int (ad_cons ed_int ad_nil))))))))))) ad_nil))))
      (sds_cons (sd_if (td_cmp (o_eq hr.units) (ed_var 2 (pv 2)).toB ed_int.toB (nomark _)) (sds_one (sd_set (i := 2) nd rfl (Or.inl rfl) (ed_bin o_add ed_int.toB (ed_callB c_abs (by rfl) bt.b_abs nbAbs (abd_cons (ed_o (k := 2) O__law_integer bp__law_integer (hr.mono (by decide)) hx hE (ad_cons (ed_var 0 (pv 0)) (ad_cons (ed_var 1 (pv 1)) ad_nil))).toB abd_nil)).toB))) sds_nil)
      (sds_one (sd_ret (ed_tup (ad_cons (ed_o (k := 2) O__law_integer bp__law_integer (hr.mono (by decide)) hx hE (ad_cons (ed_var 0 (pv 0)) (ad_cons (ed_var 1 (pv 1)) ad_nil))) (ad_cons (ed_o (k := 2) O__law_integer bp__law_integer (hr.mono (by decide)) hx hE (ad_cons (ed_var 0 (pv 0)) (ad_cons (ed_var 1 (pv 1)) ad_nil))) (ad_cons (ed_var 2 (pv 2)) ad_nil))))))))
theorem ok_reduced {f : Addr} {fd : FuncData} (bt : Bt mg) (ct : Ct K mg) (hm : mg "reduced" = some (.ref f)) (F : Fun K "reduced" "reduced" (top 17) f fd) (O_need_numbers : OkD P w K mg base "need_numbers" (top 15) 3 ["things"] sp_need_numbers) (O_normal : OkD P w K mg base "normal" (top 8) 1 ["a", "b", "d"] sp_normal) : OkD P w K mg base "reduced" (top 17) 4 ["number"] sp_reduced := by
  refine ⟨f, fd, hm, F, okD (g := g_reduced) F sc_reduced len_reduced (fun cdv A outer s H E W F R hr hE hp hx => ?_) law_reduced⟩
  have nd := sc_reduced.nd
  have hu65 := hu65_of hr
  exact (sds_cons (sd_drop (ed_o (k := 3) O_need_numbers bp_need_numbers (hr.mono (by decide)) hx hE (ad_cons (ed_tup (ad_cons (ed_var 0 (pv 0)) ad_nil)) ad_nil)).toB)
      (sds_one (sd_ret (ed_o (k := 1) O_normal bp_normal (hr.mono (by decide)) hx hE (ad_cons (ed_ix (ed_var 0 (pv 0)).toB ed_int.toB) (ad_cons (ed_ix (ed_var 0 (pv 0)).toB ed_int.toB) (ad_cons (ed_ix (ed_var 0 (pv 0)).toB ed_int.toB) ad_nil)))))))
theorem ok_plus {f : Addr} {fd : FuncData} (bt : Bt mg) (ct : Ct K mg) (hm : mg "plus" = some (.ref f)) (F : Fun K "plus" "plus" (top 18) f fd) (O_need_numbers : OkD P w K mg base "need_numbers" (top 15) 3 ["things"] sp_need_numbers) (O_added : OkD P w K mg base "added" (top 10) 2 ["one", "other"] sp_added) : OkD P w K mg base "plus" (top 18) 4 ["one", "other"] sp_plus := by
  refine ⟨f, fd, hm, F, okD (g := g_plus) F sc_plus len_plus (fun cdv A outer s H E W F R hr hE hp hx => ?_) law_plus⟩
  have nd := sc_plus.nd
  have hu65 := hu65_of hr
  exact (sds_cons (sd_drop (ed_o (k := 3) O_need_numbers bp_need_numbers (hr.mono (by decide)) hx hE (ad_cons (ed_tup (ad_cons (ed_var 0 (pv 0)) (ad_cons (ed_var 1 (pv 1)) ad_nil))) ad_nil)).toB)
      (sds_one (sd_ret (ed_o (k := 2) O_added bp_added (hr.mono (by decide)) hx hE (ad_cons (ed_var 0 (pv 0)) (ad_cons (ed_var 1 (pv 1)) ad_nil))))))
theorem ok_minus {f : Addr} {fd : FuncData} (bt : Bt mg) (ct : Ct K mg) (hm : mg "minus" = some (.ref f)) (F : Fun K "minus" "minus" (top 19) f fd) (O_need_numbers : OkD P w K mg base "need_numbers" (top 15) 3 ["things"] sp_need_numbers) (O_taken : OkD P w K mg base "taken" (top 11) 3 ["one", "other"] sp_taken) : OkD P w K mg base "minus" (top 19) 4 ["one", "other"] sp_minus := by
  refine ⟨f, fd, hm, F, okD (g := g_minus) F sc_minus len_minus (fun cdv A outer s H E W F R hr hE hp hx => ?_) law_minus⟩
  have nd := sc_minus.nd
  have hu65 := hu65_of hr
  exact (sds_cons (sd_drop (ed_o (k := 3) O_need_numbers bp_need_numbers (hr.mono (by decide)) hx hE (ad_cons (ed_tup (ad_cons (ed_var 0 (pv 0)) (ad_cons (ed_var 1 (pv 1)) ad_nil))) ad_nil)).toB)
      (sds_one (sd_ret (ed_o (k := 3) O_taken bp_taken (hr.mono (by decide)) hx hE (ad_cons (ed_var 0 (pv 0)) (ad_cons (ed_var 1 (pv 1)) ad_nil))))))
theorem ok_times {f : Addr} {fd : FuncData} (bt : Bt mg) (ct : Ct K mg) (hm : mg "times" = some (.ref f)) (F : Fun K "times" "times" (top 20) f fd) (O_need_numbers : OkD P w K mg base "need_numbers" (top 15) 3 ["things"] sp_need_numbers) (O_multiplied : OkD P w K mg base "multiplied" (top 12) 2 ["one", "other"] sp_multiplied) : OkD P w K mg base "times" (top 20) 4 ["one", "other"] sp_times := by
  refine ⟨f, fd, hm, F, okD (g := g_times) F sc_times len_times (fun cdv A outer s H E W F R hr hE hp hx => ?_) law_times⟩
  have nd := sc_times.nd
  have hu65 := hu65_of hr
  exact (sds_cons (sd_drop (ed_o (k := 3) O_need_numbers bp_need_numbers (hr.mono (by decide)) hx hE (ad_cons (ed_tup (ad_cons (ed_var 0 (pv 0)) (ad_cons (ed_var 1 (pv 1)) ad_nil))) ad_nil)).toB)
      (sds_one (sd_ret (ed_o (k := 2) O_multiplied bp_multiplied (hr.mono (by decide)) hx hE (ad_cons (ed_var 0 (pv 0)) (ad_cons (ed_var 1 (pv 1)) ad_nil))))))
theorem ok_quotient {f : Addr} {fd : FuncData} (bt : Bt mg) (ct : Ct K mg) (hm : mg "quotient" = some (.ref f)) (F : Fun K "quotient" "quotient" (top 21) f fd) (O_need_numbers : OkD P w K mg base "need_numbers" (top 15) 3 ["things"] sp_need_numbers) (O_divided : OkD P w K mg base "divided" (top 13) 3 ["one", "other"] sp_divided) : OkD P w K mg base "quotient" (top 21) 4 ["one", "other"] sp_quotient := by
  obtain ⟨C_DividedByZero, T_DividedByZero⟩ := ct.er_DividedByZero
  refine ⟨f, fd, hm, F, okD (g := g_quotient) F sc_quotient len_quotient (fun cdv A outer s H E W F R hr hE hp hx => ?_) law_quotient⟩
  have nd := sc_quotient.nd
  have hu65 := hu65_of hr
  exact (sds_cons (sd_drop (ed_o (k := 3) O_need_numbers bp_need_numbers (hr.mono (by decide)) hx hE (ad_cons (ed_tup (ad_cons (ed_var 0 (pv 0)) (ad_cons (ed_var 1 (pv 1)) ad_nil))) ad_nil)).toB)
      (sds_cons (sd_if (wd_and (td_cmp (o_eq hr.units) (ed_ix (ed_var 1 (pv 1)).toB ed_int.toB).toB ed_int.toB (nomark _)) (wd_and1 (td_cmp (o_eq hr.units) (ed_ix (ed_var 1 (pv 1)).toB ed_int.toB).toB ed_int.toB (nomark _)))).t (sds_one (sd_raise0 (C := C_DividedByZero) rfl T_DividedByZero (takes_of rfl rfl rfl rfl) hE)) sds_nil)
      (sds_one (sd_ret (ed_o (k := 3) O_divided bp_divided (hr.mono (by decide)) hx hE (ad_cons (ed_var 0 (pv 0)) (ad_cons (ed_var 1 (pv 1)) ad_nil)))))))
theorem ok_conjugate {f : Addr} {fd : FuncData} (bt : Bt mg) (ct : Ct K mg) (hm : mg "conjugate" = some (.ref f)) (F : Fun K "conjugate" "conjugate" (top 22) f fd) (O_need_numbers : OkD P w K mg base "need_numbers" (top 15) 3 ["things"] sp_need_numbers) (O_normal : OkD P w K mg base "normal" (top 8) 1 ["a", "b", "d"] sp_normal) : OkD P w K mg base "conjugate" (top 22) 4 ["number"] sp_conjugate := by
  refine ⟨f, fd, hm, F, okD (g := g_conjugate) F sc_conjugate len_conjugate (fun cdv A outer s H E W F R hr hE hp hx => ?_) law_conjugate⟩
  have nd := sc_conjugate.nd
  have hu65 := hu65_of hr
  exact (sds_cons (sd_drop (ed_o (k := 3) O_need_numbers bp_need_numbers (hr.mono (by decide)) hx hE (ad_cons (ed_tup (ad_cons (ed_var 0 (pv 0)) ad_nil)) ad_nil)).toB)
      (sds_one (sd_ret (ed_o (k := 1) O_normal bp_normal (hr.mono (by decide)) hx hE (ad_cons (ed_bin o_add (ed_ix (ed_var 0 (pv 0)).toB ed_int.toB).toB (ed_ix (ed_var 0 (pv 0)).toB ed_int.toB).toB) (ad_cons (ed_un o_neg (ed_ix (ed_var 0 (pv 0)).toB ed_int.toB).toB) (ad_cons (ed_ix (ed_var 0 (pv 0)).toB ed_int.toB) ad_nil)))))))
theorem ok__law_other {f : Addr} {fd : FuncData} (bt : Bt mg) (ct : Ct K mg) (hm : mg "_law_other" = some (.ref f)) (F : Fun K "_law_other" "_law_other" (top 37) f fd) (O__law_golden : OkD P w K mg base "_law_golden" (top 36) 3 ["_law_deck_here", "_law_pieces"] sp__law_golden) (O__law_draw : OkD P w K mg base "_law_draw" (top 25) 1 ["_law_deck_here", "_law_many"] spDraw) (O__law_conjugate : OkD P w K mg base "_law_conjugate" (top 35) 3 ["_law_p"] sp__law_conjugate) : OkD P w K mg base "_law_other" (top 37) 4 ["_law_deck_here", "_law_p", "_law_pieces"] sp__law_other := by
  refine ⟨f, fd, hm, F, okD (g := g__law_other) F sc__law_other len__law_other (fun cdv A outer s H E W F R hr hE hp hx => ?_) law__law_other⟩
  have nd := sc__law_other.nd
  have hu65 := hu65_of hr
  exact (sds_cons (sd_par2 (i := 3) (j := 4) rfl nd rfl rfl (by decide) rfl rfl (ad_cons (ed_o (k := 1) O__law_draw bp__law_draw (hr.mono (by decide)) hx hE (ad_cons (ed_var 0 (pv 0)) (ad_cons ed_int ad_nil))) (ad_cons (ed_bin o_add ed_int.toB (ed_o (k := 1) O__law_draw bp__law_draw (hr.mono (by decide)) hx hE (ad_cons (ed_var 0 (pv 0)) (ad_cons ed_int ad_nil))).toB) ad_nil)) (by rfl))
      (sds_cons (sd_if (td_cmp (o_eq hr.units) (ed_var 3 (pv 3)).toB ed_int.toB (nomark _)) (sds_one (sd_ret (ed_tup (ad_cons (ed_bin o_mul (ed_var 4 (pv 4)).toB (ed_ix (ed_var 1 (pv 1)).toB ed_int.toB).toB) (ad_cons (ed_bin o_mul (ed_var 4 (pv 4)).toB (ed_ix (ed_var 1 (pv 1)).toB ed_int.toB).toB) (ad_cons (ed_bin o_mul (ed_var 4 (pv 4)).toB (ed_ix (ed_var 1 (pv 1)).toB ed_int.toB).toB) ad_nil)))))) sds_nil)
      (sds_cons (sd_if (td_cmp (o_eq hr.units) (ed_var 3 (pv 3)).toB ed_int.toB (nomark _)) (sds_one (sd_ret (ed_tup (ad_cons (ed_bin o_mul (ed_un o_neg (ed_var 4 (pv 4)).toB).toB (ed_ix (ed_var 1 (pv 1)).toB ed_int.toB).toB) (ad_cons (ed_bin o_mul (ed_un o_neg (ed_var 4 (pv 4)).toB).toB (ed_ix (ed_var 1 (pv 1)).toB ed_int.toB).toB) (ad_cons (ed_bin o_mul (ed_var 4 (pv 4)).toB (ed_ix (ed_var 1 (pv 1)).toB ed_int.toB).toB) ad_nil)))))) sds_nil)
      (sds_cons (sd_if (td_cmp (o_eq hr.units) (ed_var 3 (pv 3)).toB ed_int.toB (nomark _)) (sds_one (sd_ret (ed_o (k := 3) O__law_conjugate bp__law_conjugate (hr.mono (by decide)) hx hE (ad_cons (ed_var 1 (pv 1)) ad_nil)))) sds_nil)
      (sds_cons (sd_if (td_cmp (o_eq hr.units) (ed_var 3 (pv 3)).toB ed_int.toB (nomark _)) (sds_one (sd_ret (ed_tup (ad_cons ed_int (ad_cons ed_int (ad_cons (ed_var 4 (pv 4)) ad_nil)))))) sds_nil)
      (sds_cons (sd_if (td_cmp (o_eq hr.units) (ed_var 3 (pv 3)).toB ed_int.toB (nomark _)) (sds_one (sd_ret (ed_tup (ad_cons (ed_ix (ed_var 1 (pv 1)).toB ed_int.toB) (ad_cons (ed_ix (ed_var 1 (pv 1)).toB ed_int.toB) (ad_cons (ed_ix (ed_var 1 (pv 1)).toB ed_int.toB) ad_nil)))))) sds_nil)
      (sds_one (sd_ret (ed_o (k := 3) O__law_golden bp__law_golden (hr.mono (by decide)) hx hE (ad_cons (ed_var 0 (pv 0)) (ad_cons (ed_var 2 (pv 2)) ad_nil)))))))))))
theorem ok__law_divided {f : Addr} {fd : FuncData} (bt : Bt mg) (ct : Ct K mg) (hm : mg "_law_divided" = some (.ref f)) (F : Fun K "_law_divided" "_law_divided" (top 38) f fd) (O_quotient : OkD P w K mg base "quotient" (top 21) 4 ["one", "other"] sp_quotient) : OkD P w K mg base "_law_divided" (top 38) 5 ["_law_p", "_law_q", "_law_is_named"] sp__law_divided := by
  obtain ⟨C_DividedByZero, T_DividedByZero⟩ := ct.er_DividedByZero
  refine ⟨f, fd, hm, F, okD (g := g__law_divided) F sc__law_divided len__law_divided (fun cdv A outer s H E W F R hr hE hp hx => ?_) law__law_divided⟩
  have nd := sc__law_divided.nd
  have hu65 := hu65_of hr
  exact (sds_cons (sd_try (M := clsM) rfl rfl nd (takes_of rfl rfl rfl rfl) hE ct.tab (fun pn xe E R hx hE hp => (sds_one (sd_set (i := 3) nd rfl (Or.inl rfl) (ed_if (td_val (ed_var 2 (pv 2)).toB) (ed_ok0 (k := 4) O_quotient (by decide) kb_quotient_0 (hr.mono (by decide)) hx hE (kd_cons (ed_var 1 (pv 1)) (kd_cons (ed_var 0 (pv 0)) kd_nil))) (ed_o (k := 4) O_quotient bp_quotient (hr.mono (by decide)) hx hE (ad_cons (ed_var 0 (pv 0)) (ad_cons (ed_var 1 (pv 1)) ad_nil)))))))
      (.plain rfl rfl T_DividedByZero.gC (fun a oe cls d pn F0 H0 er zc fv at_ => (sds_one (sd_ret ed_str))) .nil))
      (sds_one (sd_ret (ed_var 3 (pv 3)))))
theorem ok__law_is_chain_right {f : Addr} {fd : FuncData} (bt : Bt mg) (ct : Ct K mg) (hm : mg "_law_is_chain_right" = some (.ref f)) (F : Fun K "_law_is_chain_right" "_law_is_chain_right" (top 40) f fd) (O__law_golden : OkD P w K mg base "_law_golden" (top 36) 3 ["_law_deck_here", "_law_pieces"] sp__law_golden) (O__law_least : OkD P w K mg base "_law_least" (top 29) 2 ["_law_a", "_law_b", "_law_d"] sp__law_least) (O__law_draw : OkD P w K mg base "_law_draw" (top 25) 1 ["_law_deck_here", "_law_many"] spDraw) (O__law_same : OkG P w K mg base "_law_same" (top 30) 1 ["_law_told", "_law_due"] sp__law_same) (O_plus : OkD P w K mg base "plus" (top 18) 4 ["one", "other"] sp_plus) (O__law_plus : OkD P w K mg base "_law_plus" (top 31) 3 ["_law_p", "_law_q"] sp__law_plus) (O_minus : OkD P w K mg base "minus" (top 19) 4 ["one", "other"] sp_minus) (O__law_opposite : OkD P w K mg base "_law_opposite" (top 32) 1 ["_law_p"] sp__law_opposite) (O_times : OkD P w K mg base "times" (top 20) 4 ["one", "other"] sp_times) (O__law_times : OkD P w K mg base "_law_times" (top 33) 3 ["_law_p", "_law_q"] sp__law_times) (O_quotient : OkD P w K mg base "quotient" (top 21) 4 ["one", "other"] sp_quotient) (O__law_quotient : OkD P w K mg base "_law_quotient" (top 34) 3 ["_law_p", "_law_q"] sp__law_quotient) (O_conjugate : OkD P w K mg base "conjugate" (top 22) 4 ["number"] sp_conjugate) (O__law_conjugate : OkD P w K mg base "_law_conjugate" (top 35) 3 ["_law_p"] sp__law_conjugate) : OkG P w K mg base "_law_is_chain_right" (top 40) 5 ["_law_deck_here"] sp__law_is_chain_right := by
  refine ⟨f, fd, hm, F, okG (g := g__law_is_chain_right) F sc__law_is_chain_right len__law_is_chain_right (fun cdv A outer s H E W F R hG hr hE hp hx => ?_) law__law_is_chain_right⟩
  have nd := sc__law_is_chain_right.nd
  have hu65 := hu65_of hr
  exact (sds_cons (sd_set (i := 1) nd rfl (Or.inl rfl) (ed_o (k := 3) O__law_golden bp__law_golden (hr.mono (by decide)) hx hE (ad_cons (ed_var 0 (pv 0)) (ad_cons ed_int ad_nil))))
      (sds_cons (sd_par3 (i := 2) (j := 3) (l := 4) rfl nd rfl rfl rfl (by decide) (by decide) (by decide) rfl rfl rfl (ad_cons (ed_o (k := 2) O__law_least bp__law_least (hr.mono (by decide)) hx hE (ad_cons (ed_ix (ed_var 1 (pv 1)).toB ed_int.toB) (ad_cons (ed_ix (ed_var 1 (pv 1)).toB ed_int.toB) (ad_cons (ed_ix (ed_var 1 (pv 1)).toB ed_int.toB) ad_nil)))) (ad_cons (ed_var 1 (pv 1)) (ad_cons (ed_o (k := 2) O__law_least bp__law_least (hr.mono (by decide)) hx hE (ad_cons (ed_ix (ed_var 1 (pv 1)).toB ed_int.toB) (ad_cons (ed_ix (ed_var 1 (pv 1)).toB ed_int.toB) (ad_cons (ed_ix (ed_var 1 (pv 1)).toB ed_int.toB) ad_nil)))) ad_nil))) (by rfl))
      (sds_cons (sd_for hp rfl (pid_rng1 (by rfl) bt.b_range (ad_cons ed_int ad_nil)) (gd_name (pg_name (i := 5) nd rfl (Or.inl rfl))) (sds_cons (sd_par2 (i := 6) (j := 7) rfl nd rfl rfl (by decide) rfl rfl (ad_cons (ed_o (k := 1) O__law_draw bp__law_draw (hr.mono (by decide)) hx hE (ad_cons (ed_var 0 (pv 0)) (ad_cons ed_int ad_nil))) (ad_cons (ed_o (k := 3) O__law_golden bp__law_golden (hr.mono (by decide)) hx hE (ad_cons (ed_var 0 (pv 0)) (ad_cons ed_int ad_nil))) ad_nil)) (by rfl))
      (sds_cons (sd_par2 (i := 8) (j := 9) rfl nd rfl rfl (by decide) rfl rfl (ad_cons (ed_var 1 (pv 1)) (ad_cons (ed_var 2 (pv 2)) ad_nil)) (by rfl))
      (sds_cons (sd_if (td_cmp (o_eq hr.units) (ed_var 6 (pv 6)).toB ed_int.toB (nomark _)) (sds_one (sd_par2 (i := 1) (j := 2) rfl nd rfl rfl (by decide) rfl rfl (ad_cons (ed_o (k := 4) O_plus bp_plus (hr.mono (by decide)) hx hE (ad_cons (ed_var 1 (pv 1)) (ad_cons (ed_var 7 (pv 7)) ad_nil))) (ad_cons (ed_o (k := 3) O__law_plus bp__law_plus (hr.mono (by decide)) hx hE (ad_cons (ed_var 2 (pv 2)) (ad_cons (ed_var 7 (pv 7)) ad_nil))) ad_nil)) (by rfl))) (sds_one (sd_if (td_cmp (o_eq hr.units) (ed_var 6 (pv 6)).toB ed_int.toB (nomark _)) (sds_one (sd_par2 (i := 1) (j := 2) rfl nd rfl rfl (by decide) rfl rfl (ad_cons (ed_o (k := 4) O_minus bp_minus (hr.mono (by decide)) hx hE (ad_cons (ed_var 7 (pv 7)) (ad_cons (ed_var 1 (pv 1)) ad_nil))) (ad_cons (ed_o (k := 3) O__law_plus bp__law_plus (hr.mono (by decide)) hx hE (ad_cons (ed_var 7 (pv 7)) (ad_cons (ed_o (k := 1) O__law_opposite bp__law_opposite (hr.mono (by decide)) hx hE (ad_cons (ed_var 2 (pv 2)) ad_nil)) ad_nil))) ad_nil)) (by rfl))) (sds_one (sd_if (td_cmp (o_eq hr.units) (ed_var 6 (pv 6)).toB ed_int.toB (nomark _)) (sds_one (sd_par2 (i := 1) (j := 2) rfl nd rfl rfl (by decide) rfl rfl (ad_cons (ed_o (k := 4) O_times bp_times (hr.mono (by decide)) hx hE (ad_cons (ed_var 1 (pv 1)) (ad_cons (ed_var 7 (pv 7)) ad_nil))) (ad_cons (ed_o (k := 3) O__law_times bp__law_times (hr.mono (by decide)) hx hE (ad_cons (ed_var 2 (pv 2)) (ad_cons (ed_var 7 (pv 7)) ad_nil))) ad_nil)) (by rfl))) (sds_one (sd_if (wd_and (td_cmp (o_eq hr.units) (ed_var 6 (pv 6)).toB ed_int.toB (nomark _)) (wd_and1 (wd_or (td_cmp (o_ne hr.units) (ed_ix (ed_var 7 (pv 7)).toB ed_int.toB).toB ed_int.toB (nomark _)) (wd_or1 (td_cmp (o_ne hr.units) (ed_ix (ed_var 7 (pv 7)).toB ed_int.toB).toB ed_int.toB (nomark _)))).t)).t (sds_one (sd_par2 (i := 1) (j := 2) rfl nd rfl rfl (by decide) rfl rfl (ad_cons (ed_o (k := 4) O_quotient bp_quotient (hr.mono (by decide)) hx hE (ad_cons (ed_var 1 (pv 1)) (ad_cons (ed_var 7 (pv 7)) ad_nil))) (ad_cons (ed_o (k := 3) O__law_quotient bp__law_quotient (hr.mono (by decide)) hx hE (ad_cons (ed_var 2 (pv 2)) (ad_cons (ed_var 7 (pv 7)) ad_nil))) ad_nil)) (by rfl))) (sds_one (sd_if (td_cmp (o_eq hr.units) (ed_var 6 (pv 6)).toB ed_int.toB (nomark _)) (sds_one (sd_par2 (i := 1) (j := 2) rfl nd rfl rfl (by decide) rfl rfl (ad_cons (ed_o (k := 4) O_plus bp_plus (hr.mono (by decide)) hx hE (ad_cons (ed_o (k := 4) O_conjugate bp_conjugate (hr.mono (by decide)) hx hE (ad_cons (ed_var 1 (pv 1)) ad_nil)) (ad_cons (ed_var 3 (pv 3)) ad_nil))) (ad_cons (ed_o (k := 3) O__law_plus bp__law_plus (hr.mono (by decide)) hx hE (ad_cons (ed_o (k := 3) O__law_conjugate bp__law_conjugate (hr.mono (by decide)) hx hE (ad_cons (ed_var 2 (pv 2)) ad_nil)) (ad_cons (ed_var 4 (pv 4)) ad_nil))) ad_nil)) (by rfl))) (sds_one (sd_par2 (i := 1) (j := 2) rfl nd rfl rfl (by decide) rfl rfl (ad_cons (ed_o (k := 4) O_times bp_times (hr.mono (by decide)) hx hE (ad_cons (ed_var 3 (pv 3)) (ad_cons (ed_var 1 (pv 1)) ad_nil))) (ad_cons (ed_o (k := 3) O__law_times bp__law_times (hr.mono (by decide)) hx hE (ad_cons (ed_var 4 (pv 4)) (ad_cons (ed_var 2 (pv 2)) ad_nil))) ad_nil)) (by rfl))))))))))))
      (sds_cons (sd_par2 (i := 3) (j := 4) rfl nd rfl rfl (by decide) rfl rfl (ad_cons (ed_var 8 (pv 8)) (ad_cons (ed_var 9 (pv 9)) ad_nil)) (by rfl))
      (sds_one (sd_if (td_not (td_val (ed_g (k := 1) O__law_same bp__law_same hG (hr.mono (by decide)) hx hE (ad_cons (ed_var 1 (pv 1)) (ad_cons (ed_var 2 (pv 2)) ad_nil))).toB)) (sds_one (sd_ret ed_bl)) sds_nil)))))))
      (sds_one (sd_ret ed_bl)))))
theorem ok__law_are_right {f : Addr} {fd : FuncData} (bt : Bt mg) (ct : Ct K mg) (hm : mg "_law_are_right" = some (.ref f)) (F : Fun K "_law_are_right" "_law_are_right" (top 39) f fd) (O__law_least : OkD P w K mg base "_law_least" (top 29) 2 ["_law_a", "_law_b", "_law_d"] sp__law_least) (O__law_plus : OkD P w K mg base "_law_plus" (top 31) 3 ["_law_p", "_law_q"] sp__law_plus) (O__law_times : OkD P w K mg base "_law_times" (top 33) 3 ["_law_p", "_law_q"] sp__law_times) (O__law_draw : OkD P w K mg base "_law_draw" (top 25) 1 ["_law_deck_here", "_law_many"] spDraw) (O__law_same : OkG P w K mg base "_law_same" (top 30) 1 ["_law_told", "_law_due"] sp__law_same) (O__law_opposite : OkD P w K mg base "_law_opposite" (top 32) 1 ["_law_p"] sp__law_opposite) (O__law_conjugate : OkD P w K mg base "_law_conjugate" (top 35) 3 ["_law_p"] sp__law_conjugate) (O_reduced : OkD P w K mg base "reduced" (top 17) 4 ["number"] sp_reduced) (O_plus : OkD P w K mg base "plus" (top 18) 4 ["one", "other"] sp_plus) (O_minus : OkD P w K mg base "minus" (top 19) 4 ["one", "other"] sp_minus) (O_times : OkD P w K mg base "times" (top 20) 4 ["one", "other"] sp_times) (O__law_divided : OkD P w K mg base "_law_divided" (top 38) 5 ["_law_p", "_law_q", "_law_is_named"] sp__law_divided) (O__law_quotient : OkD P w K mg base "_law_quotient" (top 34) 3 ["_law_p", "_law_q"] sp__law_quotient) (O_conjugate : OkD P w K mg base "conjugate" (top 22) 4 ["number"] sp_conjugate) (O_is_golden : OkD P w K mg base "is_golden" (top 16) 3 ["thing"] sp_is_golden) : OkG P w K mg base "_law_are_right" (top 39) 6 ["_law_deck_here", "_law_p", "_law_q"] sp__law_are_right := by
  refine ⟨f, fd, hm, F, okG (g := g__law_are_right) F sc__law_are_right len__law_are_right (fun cdv A outer s H E W F R hG hr hE hp hx => ?_) law__law_are_right⟩
  have nd := sc__law_are_right.nd
  have hu65 := hu65_of hr
  exact (sds_cons (sd_set (i := 3) nd rfl (Or.inl rfl) (ed_and (ed_cmp (o_eq hr.units) (ed_ix (ed_var 2 (pv 2)).toB ed_int.toB).toB ed_int.toB (nomark _)) (ed_one (ed_cmp (o_eq hr.units) (ed_ix (ed_var 2 (pv 2)).toB ed_int.toB).toB ed_int.toB (nomark _)))))
      (sds_cons (sd_set (i := 4) nd rfl (Or.inl rfl) (fd_lst (ad_cons (ed_o (k := 2) O__law_least bp__law_least (hr.mono (by decide)) hx hE (ad_cons (ed_ix (ed_var 1 (pv 1)).toB ed_int.toB) (ad_cons (ed_ix (ed_var 1 (pv 1)).toB ed_int.toB) (ad_cons (ed_ix (ed_var 1 (pv 1)).toB ed_int.toB) ad_nil)))) (ad_cons (ed_o (k := 3) O__law_plus bp__law_plus (hr.mono (by decide)) hx hE (ad_cons (ed_var 1 (pv 1)) (ad_cons (ed_var 2 (pv 2)) ad_nil))) (ad_cons (ed_o (k := 3) O__law_plus bp__law_plus (hr.mono (by decide)) hx hE (ad_cons (ed_var 1 (pv 1)) (ad_cons (ed_o (k := 1) O__law_opposite bp__law_opposite (hr.mono (by decide)) hx hE (ad_cons (ed_var 2 (pv 2)) ad_nil)) ad_nil))) (ad_cons (ed_o (k := 3) O__law_times bp__law_times (hr.mono (by decide)) hx hE (ad_cons (ed_var 1 (pv 1)) (ad_cons (ed_var 2 (pv 2)) ad_nil))) ad_nil))))).toE)
      (sds_cons (sd_set (i := 4) nd rfl (Or.inl rfl) (ed_bin o_add (ed_var 4 (pv 4)).toB (fd_lst (ad_cons (ed_if (td_val (ed_var 3 (pv 3)).toB) ed_str (ed_o (k := 3) O__law_quotient bp__law_quotient (hr.mono (by decide)) hx hE (ad_cons (ed_var 1 (pv 1)) (ad_cons (ed_var 2 (pv 2)) ad_nil)))) (ad_cons (ed_o (k := 3) O__law_conjugate bp__law_conjugate (hr.mono (by decide)) hx hE (ad_cons (ed_var 1 (pv 1)) ad_nil)) ad_nil))).toE.toB))
      (sds_cons (sd_set (i := 5) nd rfl (Or.inl rfl) (ed_cmp (o_eq hr.units) (ed_o (k := 1) O__law_draw bp__law_draw (hr.mono (by decide)) hx hE (ad_cons (ed_var 0 (pv 0)) (ad_cons ed_int ad_nil))).toB ed_int.toB (nomark _)))
      (sds_cons (sd_if (td_val (ed_var 5 (pv 5)).toB) (sds_one (sd_set (i := 6) nd rfl (Or.inl rfl) (fd_lst (ad_cons (ed_ok0 (k := 4) O_reduced (by decide) kb_reduced_0 (hr.mono (by decide)) hx hE (kd_cons (ed_var 1 (pv 1)) kd_nil)) (ad_cons (ed_ok0 (k := 4) O_plus (by decide) kb_plus_0 (hr.mono (by decide)) hx hE (kd_cons (ed_var 2 (pv 2)) (kd_cons (ed_var 1 (pv 1)) kd_nil))) (ad_cons (ed_ok0 (k := 4) O_minus (by decide) kb_minus_0 (hr.mono (by decide)) hx hE (kd_cons (ed_var 2 (pv 2)) (kd_cons (ed_var 1 (pv 1)) kd_nil))) (ad_cons (ed_ok0 (k := 4) O_times (by decide) kb_times_0 (hr.mono (by decide)) hx hE (kd_cons (ed_var 2 (pv 2)) (kd_cons (ed_var 1 (pv 1)) kd_nil))) ad_nil))))).toE)) (sds_one (sd_set (i := 6) nd rfl (Or.inl rfl) (fd_lst (ad_cons (ed_o (k := 4) O_reduced bp_reduced (hr.mono (by decide)) hx hE (ad_cons (ed_var 1 (pv 1)) ad_nil)) (ad_cons (ed_o (k := 4) O_plus bp_plus (hr.mono (by decide)) hx hE (ad_cons (ed_var 1 (pv 1)) (ad_cons (ed_var 2 (pv 2)) ad_nil))) (ad_cons (ed_o (k := 4) O_minus bp_minus (hr.mono (by decide)) hx hE (ad_cons (ed_var 1 (pv 1)) (ad_cons (ed_var 2 (pv 2)) ad_nil))) (ad_cons (ed_o (k := 4) O_times bp_times (hr.mono (by decide)) hx hE (ad_cons (ed_var 1 (pv 1)) (ad_cons (ed_var 2 (pv 2)) ad_nil))) ad_nil))))).toE)))
      (sds_cons (sd_set (i := 6) nd rfl (Or.inl rfl) (ed_bin o_add (ed_var 6 (pv 6)).toB (fd_lst (ad_cons (ed_o (k := 5) O__law_divided bp__law_divided (hr.mono (by decide)) hx hE (ad_cons (ed_var 1 (pv 1)) (ad_cons (ed_var 2 (pv 2)) (ad_cons (ed_var 5 (pv 5)) ad_nil)))) (ad_cons (ed_if (td_val (ed_var 5 (pv 5)).toB) (ed_ok0 (k := 4) O_conjugate (by decide) kb_conjugate_0 (hr.mono (by decide)) hx hE (kd_cons (ed_var 1 (pv 1)) kd_nil)) (ed_o (k := 4) O_conjugate bp_conjugate (hr.mono (by decide)) hx hE (ad_cons (ed_var 1 (pv 1)) ad_nil))) ad_nil))).toE.toB))
      (sds_one (sd_ret (ed_and (ed_g (k := 1) O__law_same bp__law_same hG (hr.mono (by decide)) hx hE (ad_cons (ed_var 6 (pv 6)) (ad_cons (ed_var 4 (pv 4)) ad_nil))) (ed_one (ed_g (k := 1) O__law_same bp__law_same hG (hr.mono (by decide)) hx hE (ad_cons (fd_lc (own := [("_law_it", 7)]) rfl nd (pid_data (ed_tup (ad_cons (ed_var 1 (pv 1)) (ad_cons (ed_var 2 (pv 2)) (ad_cons (ed_ix (ed_var 6 (pv 6)).toB ed_int.toB) (ad_cons (ed_ix (ed_var 6 (pv 6)).toB ed_int.toB) ad_nil)))))) (blkOk_by (own := [("_law_it", 7)]) (N := ["_law_deck_here", "_law_p", "_law_q", "_law_zero", "_law_due", "_law_is_named", "_law_told", "_law_it"]) (sc := defScope (top 39)) (by decide +kernel)) (ct_name (by decide)) (fun _ _ _ _ _ => pg_name (i := 7) nd rfl (Or.inl rfl)) (fun _ _ _ _ _ => tds_nil) (fun _ _ _ _ _ => (ed_o (k := 3) O_is_golden bp_is_golden (hr.mono (by decide)) passL FinE.none (ad_cons (ed_var 7 (pv 7)) ad_nil)))).toE (ad_cons (ed_bin o_mul (fd_lst (ad_cons ed_bl ad_nil)).toE.toB ed_int.toB) ad_nil)))))))))))))
theorem ok_law {f fk : Addr} {fd fdk : FuncData} (bt : Bt mg) (hmk : mg "_law_deck" = some (.ref fk)) (Fk : Fun K "_law_deck" "_law_deck" (top 24) fk fdk) (F : Fun K "law" "law" (top 41) f fd) (O__law_is_chain_right : OkG P w K mg base "_law_is_chain_right" (top 40) 5 ["_law_deck_here"] sp__law_is_chain_right) (O__law_golden : OkD P w K mg base "_law_golden" (top 36) 3 ["_law_deck_here", "_law_pieces"] sp__law_golden) (O__law_draw : OkD P w K mg base "_law_draw" (top 25) 1 ["_law_deck_here", "_law_many"] spDraw) (O__law_same : OkG P w K mg base "_law_same" (top 30) 1 ["_law_told", "_law_due"] sp__law_same) (O__law_are_right : OkG P w K mg base "_law_are_right" (top 39) 6 ["_law_deck_here", "_law_p", "_law_q"] sp__law_are_right) (O_conjugate : OkD P w K mg base "conjugate" (top 22) 4 ["number"] sp_conjugate) (O_plus : OkD P w K mg base "plus" (top 18) 4 ["one", "other"] sp_plus) (O_times : OkD P w K mg base "times" (top 20) 4 ["one", "other"] sp_times) (O__law_plus : OkD P w K mg base "_law_plus" (top 31) 3 ["_law_p", "_law_q"] sp__law_plus) (O__law_other : OkD P w K mg base "_law_other" (top 37) 4 ["_law_deck_here", "_law_p", "_law_pieces"] sp__law_other) (O__law_times : OkD P w K mg base "_law_times" (top 33) 3 ["_law_p", "_law_q"] sp__law_times) : FnG P w K mg base 7 f fd ["_law_script"] (spLaw K) := by
  refine okLaw (g := fun W => g_law W fun _ => False) F sc_law (by decide) rfl (fun cdv A outer s H E hG hr hp hx => ⟨ps_set (i := 1) sc_law.nd rfl (Or.inl rfl) (pe_call (ok__law_deck bt Fk) (hr.mono (by decide)) rfl hmk Fk.kp (Fk.binds bp__law_deck) .nil hx (pa_cons (pv 0) pa_nil)), fun p H0 => ?_⟩) law_law
  have nd := sc_law.nd
  have W : WD := some p
  have hE : FinE (some p) ⟨K, mg⟩ hp0 H0 (fun _ => False) E := fun er z => z.elim
  have hu65 := hu65_of hr
  exact (sds_cons (sd_for hp rfl (pid_rng1 (by rfl) bt.b_range (ad_cons ed_int ad_nil)) (gd_name (pg_name (i := 2) nd rfl (Or.inl rfl))) (sds_cons (sd_set (i := 3) nd rfl (Or.inl rfl) (ed_o (k := 3) O__law_golden bp__law_golden (hr.mono (by decide)) hx hE (ad_cons (ed_var 1 (pv 1)) (ad_cons ed_int ad_nil))))
      (sds_one (sd_if (td_not (td_val (ed_g (k := 6) O__law_are_right bp__law_are_right hG (hr.mono (by decide)) hx hE (ad_cons (ed_var 1 (pv 1)) (ad_cons (ed_var 3 (pv 3)) (ad_cons (ed_o (k := 4) O__law_other bp__law_other (hr.mono (by decide)) hx hE (ad_cons (ed_var 1 (pv 1)) (ad_cons (ed_var 3 (pv 3)) (ad_cons ed_int ad_nil)))) ad_nil)))).toB)) (sds_one (sd_ret ed_bl)) sds_nil))))
      (sds_cons (sd_if (td_cmp (o_eq hr.units) (ed_o (k := 1) O__law_draw bp__law_draw (hr.mono (by decide)) hx hE (ad_cons (ed_var 1 (pv 1)) (ad_cons ed_int ad_nil))).toB ed_int.toB (nomark _)) (sds_cons (sd_set (i := 3) nd rfl (Or.inl rfl) (ed_o (k := 3) O__law_golden bp__law_golden (hr.mono (by decide)) hx hE (ad_cons (ed_var 1 (pv 1)) (ad_cons ed_int ad_nil))))
      (sds_one (sd_if (td_not (td_val (ed_g (k := 6) O__law_are_right bp__law_are_right hG (hr.mono (by decide)) hx hE (ad_cons (ed_var 1 (pv 1)) (ad_cons (ed_var 3 (pv 3)) (ad_cons (ed_o (k := 4) O__law_other bp__law_other (hr.mono (by decide)) hx hE (ad_cons (ed_var 1 (pv 1)) (ad_cons (ed_var 3 (pv 3)) (ad_cons ed_int ad_nil)))) ad_nil)))).toB)) (sds_one (sd_ret ed_bl)) sds_nil))) sds_nil)
      (sds_cons (sd_par3 (i := 3) (j := 4) (l := 5) rfl nd rfl rfl rfl (by decide) (by decide) (by decide) rfl rfl rfl (ad_cons (ed_o (k := 3) O__law_golden bp__law_golden (hr.mono (by decide)) hx hE (ad_cons (ed_var 1 (pv 1)) (ad_cons ed_int ad_nil))) (ad_cons (ed_o (k := 3) O__law_golden bp__law_golden (hr.mono (by decide)) hx hE (ad_cons (ed_var 1 (pv 1)) (ad_cons ed_int ad_nil))) (ad_cons (ed_o (k := 3) O__law_golden bp__law_golden (hr.mono (by decide)) hx hE (ad_cons (ed_var 1 (pv 1)) (ad_cons ed_int ad_nil))) ad_nil))) (by rfl))
      (sds_cons (sd_if (td_not (td_val (ed_g (k := 1) O__law_same bp__law_same hG (hr.mono (by decide)) hx hE (ad_cons (ed_o (k := 4) O_conjugate bp_conjugate (hr.mono (by decide)) hx hE (ad_cons (ed_o (k := 4) O_plus bp_plus (hr.mono (by decide)) hx hE (ad_cons (ed_var 3 (pv 3)) (ad_cons (ed_var 4 (pv 4)) ad_nil))) ad_nil)) (ad_cons (ed_o (k := 4) O_plus bp_plus (hr.mono (by decide)) hx hE (ad_cons (ed_o (k := 4) O_conjugate bp_conjugate (hr.mono (by decide)) hx hE (ad_cons (ed_var 3 (pv 3)) ad_nil)) (ad_cons (ed_o (k := 4) O_conjugate bp_conjugate (hr.mono (by decide)) hx hE (ad_cons (ed_var 4 (pv 4)) ad_nil)) ad_nil))) ad_nil))).toB)) (sds_one (sd_ret ed_bl)) sds_nil)
      (sds_cons (sd_if (td_not (td_val (ed_g (k := 1) O__law_same bp__law_same hG (hr.mono (by decide)) hx hE (ad_cons (ed_o (k := 4) O_conjugate bp_conjugate (hr.mono (by decide)) hx hE (ad_cons (ed_o (k := 4) O_times bp_times (hr.mono (by decide)) hx hE (ad_cons (ed_var 3 (pv 3)) (ad_cons (ed_var 4 (pv 4)) ad_nil))) ad_nil)) (ad_cons (ed_o (k := 4) O_times bp_times (hr.mono (by decide)) hx hE (ad_cons (ed_o (k := 4) O_conjugate bp_conjugate (hr.mono (by decide)) hx hE (ad_cons (ed_var 3 (pv 3)) ad_nil)) (ad_cons (ed_o (k := 4) O_conjugate bp_conjugate (hr.mono (by decide)) hx hE (ad_cons (ed_var 4 (pv 4)) ad_nil)) ad_nil))) ad_nil))).toB)) (sds_one (sd_ret ed_bl)) sds_nil)
      (sds_cons (sd_if (td_not (td_val (ed_g (k := 1) O__law_same bp__law_same hG (hr.mono (by decide)) hx hE (ad_cons (ed_o (k := 4) O_times bp_times (hr.mono (by decide)) hx hE (ad_cons (ed_var 3 (pv 3)) (ad_cons (ed_o (k := 4) O_plus bp_plus (hr.mono (by decide)) hx hE (ad_cons (ed_var 4 (pv 4)) (ad_cons (ed_var 5 (pv 5)) ad_nil))) ad_nil))) (ad_cons (ed_o (k := 3) O__law_plus bp__law_plus (hr.mono (by decide)) hx hE (ad_cons (ed_o (k := 3) O__law_times bp__law_times (hr.mono (by decide)) hx hE (ad_cons (ed_var 3 (pv 3)) (ad_cons (ed_var 4 (pv 4)) ad_nil))) (ad_cons (ed_o (k := 3) O__law_times bp__law_times (hr.mono (by decide)) hx hE (ad_cons (ed_var 3 (pv 3)) (ad_cons (ed_var 5 (pv 5)) ad_nil))) ad_nil))) ad_nil))).toB)) (sds_one (sd_ret ed_bl)) sds_nil)
      (sds_one (sd_ret (ed_g (k := 5) O__law_is_chain_right bp__law_is_chain_right hG (hr.mono (by decide)) hx hE (ad_cons (ed_var 1 (pv 1)) ad_nil))))))))))
end
theorem all_ok {l : PySem.W.OpenLaw} {w : World} {K : PySem.W.Frag} {h : Heap} {mg : Str → Option Value} {fa : Addr} (X : K.In h) (G : h.Ns mainGlobals mg) (hfa : mg "law" = some (.ref fa))
    {f6 f7 f8 f9 f10 f11 f12 f13 f15 f16 f17 f18 f19 f20 f21 f22 f24 f25 f26 f27 f28 f29 f30 f31 f32 f33 f34 f35 f36 f37 f38 f39 f40 f41 C_DividedByZero : Addr} {od6 an6 od7 an7 od8 an8 od9 an9 od10 an10 od11 an11 od12 an12 od13 an13 od15 an15 od16 an16 od17 an17 od18 an18 od19 an19 od20 an20 od21 an21 od22 an22 od24 an24 od25 an25 od26 an26 od27 an27 od28 an28 od29 an29 od30 an30 od31 an31 od32 an32 od33 an33 od34 an34 od35 an35 od36 an36 od37 an37 od38 an38 od39 an39 od40 an40 od41 an41 : Option Addr} {sl6 sl7 sl8 sl9 sl10 sl11 sl12 sl13 sl15 sl16 sl17 sl18 sl19 sl20 sl21 sl22 sl24 sl25 sl26 sl27 sl28 sl29 sl30 sl31 sl32 sl33 sl34 sl35 sl36 sl37 sl38 sl39 sl40 sl41 : Array (Option Value)} {oc6 kV6 dc6 pm6 cd6 ct6 oc7 kV7 dc7 pm7 cd7 ct7 oc8 kV8 dc8 pm8 cd8 ct8 oc9 kV9 dc9 pm9 cd9 ct9 oc10 kV10 dc10 pm10 cd10 ct10 oc11 kV11 dc11 pm11 cd11 ct11 oc12 kV12 dc12 pm12 cd12 ct12 oc13 kV13 dc13 pm13 cd13 ct13 oc15 kV15 dc15 pm15 cd15 ct15 oc16 kV16 dc16 pm16 cd16 ct16 oc17 kV17 dc17 pm17 cd17 ct17 oc18 kV18 dc18 pm18 cd18 ct18 oc19 kV19 dc19 pm19 cd19 ct19 oc20 kV20 dc20 pm20 cd20 ct20 oc21 kV21 dc21 pm21 cd21 ct21 oc22 kV22 dc22 pm22 cd22 ct22 oc24 kV24 dc24 pm24 cd24 ct24 oc25 kV25 dc25 pm25 cd25 ct25 oc26 kV26 dc26 pm26 cd26 ct26 oc27 kV27 dc27 pm27 cd27 ct27 oc28 kV28 dc28 pm28 cd28 ct28 oc29 kV29 dc29 pm29 cd29 ct29 oc30 kV30 dc30 pm30 cd30 ct30 oc31 kV31 dc31 pm31 cd31 ct31 oc32 kV32 dc32 pm32 cd32 ct32 oc33 kV33 dc33 pm33 cd33 ct33 oc34 kV34 dc34 pm34 cd34 ct34 oc35 kV35 dc35 pm35 cd35 ct35 oc36 kV36 dc36 pm36 cd36 ct36 oc37 kV37 dc37 pm37 cd37 ct37 oc38 kV38 dc38 pm38 cd38 ct38 oc39 kV39 dc39 pm39 cd39 ct39 oc40 kV40 dc40 pm40 cd40 ct40 oc41 kV41 dc41 pm41 cd41 ct41 : Value}
    (a6 : PySem.W.nsIn K mainGlobals "is_integer" = some (some (.ref f6))) (l6 : K.lookup f6 = some ⟨oc6, od6, .func (PySem.W.fnOf "is_integer" "is_integer" (defArgs (top 6)) (defBody (top 6)) (defScope (top 6)) .none kV6 dc6 pm6 an6 cd6 ct6), sl6⟩) (c6 : PySem.W.codeIn K cd6 "is_integer" = true) (k6 : PySem.W.keepIn K (.ref f6) = true) (a7 : PySem.W.nsIn K mainGlobals "is_number" = some (some (.ref f7))) (l7 : K.lookup f7 = some ⟨oc7, od7, .func (PySem.W.fnOf "is_number" "is_number" (defArgs (top 7)) (defBody (top 7)) (defScope (top 7)) .none kV7 dc7 pm7 an7 cd7 ct7), sl7⟩) (c7 : PySem.W.codeIn K cd7 "is_number" = true) (k7 : PySem.W.keepIn K (.ref f7) = true) (a8 : PySem.W.nsIn K mainGlobals "normal" = some (some (.ref f8))) (l8 : K.lookup f8 = some ⟨oc8, od8, .func (PySem.W.fnOf "normal" "normal" (defArgs (top 8)) (defBody (top 8)) (defScope (top 8)) .none kV8 dc8 pm8 an8 cd8 ct8), sl8⟩) (c8 : PySem.W.codeIn K cd8 "normal" = true) (k8 : PySem.W.keepIn K (.ref f8) = true) (a9 : PySem.W.nsIn K mainGlobals "negative" = some (some (.ref f9))) (l9 : K.lookup f9 = some ⟨oc9, od9, .func (PySem.W.fnOf "negative" "negative" (defArgs (top 9)) (defBody (top 9)) (defScope (top 9)) .none kV9 dc9 pm9 an9 cd9 ct9), sl9⟩) (c9 : PySem.W.codeIn K cd9 "negative" = true) (k9 : PySem.W.keepIn K (.ref f9) = true) (a10 : PySem.W.nsIn K mainGlobals "added" = some (some (.ref f10))) (l10 : K.lookup f10 = some ⟨oc10, od10, .func (PySem.W.fnOf "added" "added" (defArgs (top 10)) (defBody (top 10)) (defScope (top 10)) .none kV10 dc10 pm10 an10 cd10 ct10), sl10⟩) (c10 : PySem.W.codeIn K cd10 "added" = true) (k10 : PySem.W.keepIn K (.ref f10) = true) (a11 : PySem.W.nsIn K mainGlobals "taken" = some (some (.ref f11))) (l11 : K.lookup f11 = some ⟨oc11, od11, .func (PySem.W.fnOf "taken" "taken" (defArgs (top 11)) (defBody (top 11)) (defScope (top 11)) .none kV11 dc11 pm11 an11 cd11 ct11), sl11⟩) (c11 : PySem.W.codeIn K cd11 "taken" = true) (k11 : PySem.W.keepIn K (.ref f11) = true) (a12 : PySem.W.nsIn K mainGlobals "multiplied" = some (some (.ref f12))) (l12 : K.lookup f12 = some ⟨oc12, od12, .func (PySem.W.fnOf "multiplied" "multiplied" (defArgs (top 12)) (defBody (top 12)) (defScope (top 12)) .none kV12 dc12 pm12 an12 cd12 ct12), sl12⟩) (c12 : PySem.W.codeIn K cd12 "multiplied" = true) (k12 : PySem.W.keepIn K (.ref f12) = true) (a13 : PySem.W.nsIn K mainGlobals "divided" = some (some (.ref f13))) (l13 : K.lookup f13 = some ⟨oc13, od13, .func (PySem.W.fnOf "divided" "divided" (defArgs (top 13)) (defBody (top 13)) (defScope (top 13)) .none kV13 dc13 pm13 an13 cd13 ct13), sl13⟩) (c13 : PySem.W.codeIn K cd13 "divided" = true) (k13 : PySem.W.keepIn K (.ref f13) = true) (a15 : PySem.W.nsIn K mainGlobals "need_numbers" = some (some (.ref f15))) (l15 : K.lookup f15 = some ⟨oc15, od15, .func (PySem.W.fnOf "need_numbers" "need_numbers" (defArgs (top 15)) (defBody (top 15)) (defScope (top 15)) .none kV15 dc15 pm15 an15 cd15 ct15), sl15⟩) (c15 : PySem.W.codeIn K cd15 "need_numbers" = true) (k15 : PySem.W.keepIn K (.ref f15) = true) (a16 : PySem.W.nsIn K mainGlobals "is_golden" = some (some (.ref f16))) (l16 : K.lookup f16 = some ⟨oc16, od16, .func (PySem.W.fnOf "is_golden" "is_golden" (defArgs (top 16)) (defBody (top 16)) (defScope (top 16)) .none kV16 dc16 pm16 an16 cd16 ct16), sl16⟩) (c16 : PySem.W.codeIn K cd16 "is_golden" = true) (k16 : PySem.W.keepIn K (.ref f16) = true) (a17 : PySem.W.nsIn K mainGlobals "reduced" = some (some (.ref f17))) (l17 : K.lookup f17 = some ⟨oc17, od17, .func (PySem.W.fnOf "reduced" "reduced" (defArgs (top 17)) (defBody (top 17)) (defScope (top 17)) .none kV17 dc17 pm17 an17 cd17 ct17), sl17⟩) (c17 : PySem.W.codeIn K cd17 "reduced" = true) (k17 : PySem.W.keepIn K (.ref f17) = true) (a18 : PySem.W.nsIn K mainGlobals "plus" = some (some (.ref f18))) (l18 : K.lookup f18 = some ⟨oc18, od18, .func (PySem.W.fnOf "plus" "plus" (defArgs (top 18)) (defBody (top 18)) (defScope (top 18)) .none kV18 dc18 pm18 an18 cd18 ct18), sl18⟩) (c18 : PySem.W.codeIn K cd18 "plus" = true) (k18 : PySem.W.keepIn K (.ref f18) = true) (a19 : PySem.W.nsIn K mainGlobals "minus" = some (some (.ref f19))) (l19 : K.lookup f19 = some ⟨oc19, od19, .func (PySem.W.fnOf "minus" "minus" (defArgs (top 19)) (defBody (top 19)) (defScope (top 19)) .none kV19 dc19 pm19 an19 cd19 ct19), sl19⟩) (c19 : PySem.W.codeIn K cd19 "minus" = true) (k19 : PySem.W.keepIn K (.ref f19) = true) (a20 : PySem.W.nsIn K mainGlobals "times" = some (some (.ref f20))) (l20 : K.lookup f20 = some ⟨oc20, od20, .func (PySem.W.fnOf "times" "times" (defArgs (top 20)) (defBody (top 20)) (defScope (top 20)) .none kV20 dc20 pm20 an20 cd20 ct20), sl20⟩) (c20 : PySem.W.codeIn K cd20 "times" = true) (k20 : PySem.W.keepIn K (.ref f20) = true) (a21 : PySem.W.nsIn K mainGlobals "quotient" = some (some (.ref f21))) (l21 : K.lookup f21 = some ⟨oc21, od21, .func (PySem.W.fnOf "quotient" "quotient" (defArgs (top 21)) (defBody (top 21)) (defScope (top 21)) .none kV21 dc21 pm21 an21 cd21 ct21), sl21⟩) (c21 : PySem.W.codeIn K cd21 "quotient" = true) (k21 : PySem.W.keepIn K (.ref f21) = true) (a22 : PySem.W.nsIn K mainGlobals "conjugate" = some (some (.ref f22))) (l22 : K.lookup f22 = some ⟨oc22, od22, .func (PySem.W.fnOf "conjugate" "conjugate" (defArgs (top 22)) (defBody (top 22)) (defScope (top 22)) .none kV22 dc22 pm22 an22 cd22 ct22), sl22⟩) (c22 : PySem.W.codeIn K cd22 "conjugate" = true) (k22 : PySem.W.keepIn K (.ref f22) = true) (a24 : PySem.W.nsIn K mainGlobals "_law_deck" = some (some (.ref f24))) (l24 : K.lookup f24 = some ⟨oc24, od24, .func (PySem.W.fnOf "_law_deck" "_law_deck" (defArgs (top 24)) (defBody (top 24)) (defScope (top 24)) .none kV24 dc24 pm24 an24 cd24 ct24), sl24⟩) (c24 : PySem.W.codeIn K cd24 "_law_deck" = true) (k24 : PySem.W.keepIn K (.ref f24) = true) (a25 : PySem.W.nsIn K mainGlobals "_law_draw" = some (some (.ref f25))) (l25 : K.lookup f25 = some ⟨oc25, od25, .func (PySem.W.fnOf "_law_draw" "_law_draw" (defArgs (top 25)) (defBody (top 25)) (defScope (top 25)) .none kV25 dc25 pm25 an25 cd25 ct25), sl25⟩) (c25 : PySem.W.codeIn K cd25 "_law_draw" = true) (k25 : PySem.W.keepIn K (.ref f25) = true) (a26 : PySem.W.nsIn K mainGlobals "_law_pick" = some (some (.ref f26))) (l26 : K.lookup f26 = some ⟨oc26, od26, .func (PySem.W.fnOf "_law_pick" "_law_pick" (defArgs (top 26)) (defBody (top 26)) (defScope (top 26)) .none kV26 dc26 pm26 an26 cd26 ct26), sl26⟩) (c26 : PySem.W.codeIn K cd26 "_law_pick" = true) (k26 : PySem.W.keepIn K (.ref f26) = true) (a27 : PySem.W.nsIn K mainGlobals "_law_integer" = some (some (.ref f27))) (l27 : K.lookup f27 = some ⟨oc27, od27, .func (PySem.W.fnOf "_law_integer" "_law_integer" (defArgs (top 27)) (defBody (top 27)) (defScope (top 27)) .none kV27 dc27 pm27 an27 cd27 ct27), sl27⟩) (c27 : PySem.W.codeIn K cd27 "_law_integer" = true) (k27 : PySem.W.keepIn K (.ref f27) = true) (a28 : PySem.W.nsIn K mainGlobals "_law_common" = some (some (.ref f28))) (l28 : K.lookup f28 = some ⟨oc28, od28, .func (PySem.W.fnOf "_law_common" "_law_common" (defArgs (top 28)) (defBody (top 28)) (defScope (top 28)) .none kV28 dc28 pm28 an28 cd28 ct28), sl28⟩) (c28 : PySem.W.codeIn K cd28 "_law_common" = true) (k28 : PySem.W.keepIn K (.ref f28) = true) (a29 : PySem.W.nsIn K mainGlobals "_law_least" = some (some (.ref f29))) (l29 : K.lookup f29 = some ⟨oc29, od29, .func (PySem.W.fnOf "_law_least" "_law_least" (defArgs (top 29)) (defBody (top 29)) (defScope (top 29)) .none kV29 dc29 pm29 an29 cd29 ct29), sl29⟩) (c29 : PySem.W.codeIn K cd29 "_law_least" = true) (k29 : PySem.W.keepIn K (.ref f29) = true) (a30 : PySem.W.nsIn K mainGlobals "_law_same" = some (some (.ref f30))) (l30 : K.lookup f30 = some ⟨oc30, od30, .func (PySem.W.fnOf "_law_same" "_law_same" (defArgs (top 30)) (defBody (top 30)) (defScope (top 30)) .none kV30 dc30 pm30 an30 cd30 ct30), sl30⟩) (c30 : PySem.W.codeIn K cd30 "_law_same" = true) (k30 : PySem.W.keepIn K (.ref f30) = true) (a31 : PySem.W.nsIn K mainGlobals "_law_plus" = some (some (.ref f31))) (l31 : K.lookup f31 = some ⟨oc31, od31, .func (PySem.W.fnOf "_law_plus" "_law_plus" (defArgs (top 31)) (defBody (top 31)) (defScope (top 31)) .none kV31 dc31 pm31 an31 cd31 ct31), sl31⟩) (c31 : PySem.W.codeIn K cd31 "_law_plus" = true) (k31 : PySem.W.keepIn K (.ref f31) = true) (a32 : PySem.W.nsIn K mainGlobals "_law_opposite" = some (some (.ref f32))) (l32 : K.lookup f32 = some ⟨oc32, od32, .func (PySem.W.fnOf "_law_opposite" "_law_opposite" (defArgs (top 32)) (defBody (top 32)) (defScope (top 32)) .none kV32 dc32 pm32 an32 cd32 ct32), sl32⟩) (c32 : PySem.W.codeIn K cd32 "_law_opposite" = true) (k32 : PySem.W.keepIn K (.ref f32) = true) (a33 : PySem.W.nsIn K mainGlobals "_law_times" = some (some (.ref f33))) (l33 : K.lookup f33 = some ⟨oc33, od33, .func (PySem.W.fnOf "_law_times" "_law_times" (defArgs (top 33)) (defBody (top 33)) (defScope (top 33)) .none kV33 dc33 pm33 an33 cd33 ct33), sl33⟩) (c33 : PySem.W.codeIn K cd33 "_law_times" = true) (k33 : PySem.W.keepIn K (.ref f33) = true) (a34 : PySem.W.nsIn K mainGlobals "_law_quotient" = some (some (.ref f34))) (l34 : K.lookup f34 = some ⟨oc34, od34, .func (PySem.W.fnOf "_law_quotient" "_law_quotient" (defArgs (top 34)) (defBody (top 34)) (defScope (top 34)) .none kV34 dc34 pm34 an34 cd34 ct34), sl34⟩) (c34 : PySem.W.codeIn K cd34 "_law_quotient" = true) (k34 : PySem.W.keepIn K (.ref f34) = true) (a35 : PySem.W.nsIn K mainGlobals "_law_conjugate" = some (some (.ref f35))) (l35 : K.lookup f35 = some ⟨oc35, od35, .func (PySem.W.fnOf "_law_conjugate" "_law_conjugate" (defArgs (top 35)) (defBody (top 35)) (defScope (top 35)) .none kV35 dc35 pm35 an35 cd35 ct35), sl35⟩) (c35 : PySem.W.codeIn K cd35 "_law_conjugate" = true) (k35 : PySem.W.keepIn K (.ref f35) = true) (a36 : PySem.W.nsIn K mainGlobals "_law_golden" = some (some (.ref f36))) (l36 : K.lookup f36 = some ⟨oc36, od36, .func (PySem.W.fnOf "_law_golden" "_law_golden" (defArgs (top 36)) (defBody (top 36)) (defScope (top 36)) .none kV36 dc36 pm36 an36 cd36 ct36), sl36⟩) (c36 : PySem.W.codeIn K cd36 "_law_golden" = true) (k36 : PySem.W.keepIn K (.ref f36) = true) (a37 : PySem.W.nsIn K mainGlobals "_law_other" = some (some (.ref f37))) (l37 : K.lookup f37 = some ⟨oc37, od37, .func (PySem.W.fnOf "_law_other" "_law_other" (defArgs (top 37)) (defBody (top 37)) (defScope (top 37)) .none kV37 dc37 pm37 an37 cd37 ct37), sl37⟩) (c37 : PySem.W.codeIn K cd37 "_law_other" = true) (k37 : PySem.W.keepIn K (.ref f37) = true) (a38 : PySem.W.nsIn K mainGlobals "_law_divided" = some (some (.ref f38))) (l38 : K.lookup f38 = some ⟨oc38, od38, .func (PySem.W.fnOf "_law_divided" "_law_divided" (defArgs (top 38)) (defBody (top 38)) (defScope (top 38)) .none kV38 dc38 pm38 an38 cd38 ct38), sl38⟩) (c38 : PySem.W.codeIn K cd38 "_law_divided" = true) (k38 : PySem.W.keepIn K (.ref f38) = true) (a39 : PySem.W.nsIn K mainGlobals "_law_are_right" = some (some (.ref f39))) (l39 : K.lookup f39 = some ⟨oc39, od39, .func (PySem.W.fnOf "_law_are_right" "_law_are_right" (defArgs (top 39)) (defBody (top 39)) (defScope (top 39)) .none kV39 dc39 pm39 an39 cd39 ct39), sl39⟩) (c39 : PySem.W.codeIn K cd39 "_law_are_right" = true) (k39 : PySem.W.keepIn K (.ref f39) = true) (a40 : PySem.W.nsIn K mainGlobals "_law_is_chain_right" = some (some (.ref f40))) (l40 : K.lookup f40 = some ⟨oc40, od40, .func (PySem.W.fnOf "_law_is_chain_right" "_law_is_chain_right" (defArgs (top 40)) (defBody (top 40)) (defScope (top 40)) .none kV40 dc40 pm40 an40 cd40 ct40), sl40⟩) (c40 : PySem.W.codeIn K cd40 "_law_is_chain_right" = true) (k40 : PySem.W.keepIn K (.ref f40) = true) (a41 : PySem.W.nsIn K mainGlobals "law" = some (some (.ref f41))) (l41 : K.lookup f41 = some ⟨oc41, od41, .func (PySem.W.fnOf "law" "law" (defArgs (top 41)) (defBody (top 41)) (defScope (top 41)) .none kV41 dc41 pm41 an41 cd41 ct41), sl41⟩) (c41 : PySem.W.codeIn K cd41 "law" = true) (k41 : PySem.W.keepIn K (.ref f41) = true)
    (z_abs : PySem.W.nsIn K mainGlobals "abs" = some none) (z_bool : PySem.W.nsIn K mainGlobals "bool" = some none) (z_int : PySem.W.nsIn K mainGlobals "int" = some none) (z_isinstance : PySem.W.nsIn K mainGlobals "isinstance" = some none) (z_len : PySem.W.nsIn K mainGlobals "len" = some none) (z_list : PySem.W.nsIn K mainGlobals "list" = some none) (z_max : PySem.W.nsIn K mainGlobals "max" = some none) (z_range : PySem.W.nsIn K mainGlobals "range" = some none) (z_repr : PySem.W.nsIn K mainGlobals "repr" = some none) (z_tuple : PySem.W.nsIn K mainGlobals "tuple" = some none) (z_gcd : PySem.W.nsIn K mainGlobals "gcd" = some (some (.builtin "math.gcd"))) (e1_DividedByZero : PySem.W.nsIn K mainGlobals "DividedByZero" = some (some (.ref C_DividedByZero))) (e2_DividedByZero : PySem.W.excIn K C_DividedByZero exT "Exception.__new__" = true) (e3_DividedByZero : PySem.W.keepIn K (.ref C_DividedByZero) = true) (e4_DividedByZero : PySem.W.subIn K (.ref C_DividedByZero) (.type "BaseException") = some true) (e5_DividedByZero : PySem.W.typeIn K (.ref C_DividedByZero) = some (.type "type")) (r_DividedByZero_DividedByZero : PySem.W.subIn K (.ref C_DividedByZero) (.ref C_DividedByZero) = some true) (d1 : PySem.W.nsOkIn K cStatics = true) (d2 : PySem.W.nsIn K cStatics "sys.int_max_str_digits" = some none) :
    ∃ fd : FuncData, (∀ (s : Shared) (u : Value), BindsTo s fd ⟨[u], []⟩ [("_law_script", u)]) ∧ ∀ base : Heap, K.In base → base.Ns mainGlobals mg → FnG l.prog w K mg base 7 fa fd ["_law_script"] (spLaw K) := by
  have e := hfa.symm.trans (PySem.W.mg_of X G a41)
  cases e
  have bt : Bt mg := ⟨PySem.W.mg_none_of X G z_abs, PySem.W.mg_none_of X G z_bool, PySem.W.mg_none_of X G z_int, PySem.W.mg_none_of X G z_isinstance, PySem.W.mg_none_of X G z_len, PySem.W.mg_none_of X G z_list, PySem.W.mg_none_of X G z_max, PySem.W.mg_none_of X G z_range, PySem.W.mg_none_of X G z_repr, PySem.W.mg_none_of X G z_tuple, PySem.W.mg_of X G z_gcd⟩
  have T_DividedByZero : Er0 K mg "DividedByZero" C_DividedByZero := ⟨PySem.W.mg_of X G e1_DividedByZero, e2_DividedByZero, e3_DividedByZero, e4_DividedByZero, e5_DividedByZero⟩
  have tab : ClsTab ⟨K, mg⟩ clsM := fun x y b u v h hu hv => by
    unfold clsM at h
    split at h
    · rename_i hc; rw [Bool.and_eq_true, beq_iff_eq, beq_iff_eq] at hc; obtain ⟨rfl, rfl⟩ := hc; cases h; cases T_DividedByZero.gC.symm.trans hu; cases T_DividedByZero.gC.symm.trans hv; exact exm_of (clsIn_exc e2_DividedByZero) e4_DividedByZero e5_DividedByZero r_DividedByZero_DividedByZero
    · cases h
  have ct : Ct K mg := ⟨⟨C_DividedByZero, T_DividedByZero⟩, tab, ⟨d1, d2⟩⟩
  have F6 := fun_mk (st := top 6) l6 c6 k6
  have F7 := fun_mk (st := top 7) l7 c7 k7
  have F8 := fun_mk (st := top 8) l8 c8 k8
  have F9 := fun_mk (st := top 9) l9 c9 k9
  have F10 := fun_mk (st := top 10) l10 c10 k10
  have F11 := fun_mk (st := top 11) l11 c11 k11
  have F12 := fun_mk (st := top 12) l12 c12 k12
  have F13 := fun_mk (st := top 13) l13 c13 k13
  have F15 := fun_mk (st := top 15) l15 c15 k15
  have F16 := fun_mk (st := top 16) l16 c16 k16
  have F17 := fun_mk (st := top 17) l17 c17 k17
  have F18 := fun_mk (st := top 18) l18 c18 k18
  have F19 := fun_mk (st := top 19) l19 c19 k19
  have F20 := fun_mk (st := top 20) l20 c20 k20
  have F21 := fun_mk (st := top 21) l21 c21 k21
  have F22 := fun_mk (st := top 22) l22 c22 k22
  have F24 := fun_mk (st := top 24) l24 c24 k24
  have F25 := fun_mk (st := top 25) l25 c25 k25
  have F26 := fun_mk (st := top 26) l26 c26 k26
  have F27 := fun_mk (st := top 27) l27 c27 k27
  have F28 := fun_mk (st := top 28) l28 c28 k28
  have F29 := fun_mk (st := top 29) l29 c29 k29
  have F30 := fun_mk (st := top 30) l30 c30 k30
  have F31 := fun_mk (st := top 31) l31 c31 k31
  have F32 := fun_mk (st := top 32) l32 c32 k32
  have F33 := fun_mk (st := top 33) l33 c33 k33
  have F34 := fun_mk (st := top 34) l34 c34 k34
  have F35 := fun_mk (st := top 35) l35 c35 k35
  have F36 := fun_mk (st := top 36) l36 c36 k36
  have F37 := fun_mk (st := top 37) l37 c37 k37
  have F38 := fun_mk (st := top 38) l38 c38 k38
  have F39 := fun_mk (st := top 39) l39 c39 k39
  have F40 := fun_mk (st := top 40) l40 c40 k40
  have F41 := fun_mk (st := top 41) l41 c41 k41
  refine ⟨PySem.W.fnOf "law" "law" (defArgs (top 41)) (defBody (top 41)) (defScope (top 41)) .none kV41 dc41 pm41 an41 cd41 ct41, fun s v => .of_eq rfl, fun base _ _ => ?_⟩
  have O__law_draw := ok__law_draw (P := l.prog) (w := w) (base := base) bt (PySem.W.mg_of X G a25) F25
  have O_is_integer := ok_is_integer (P := l.prog) (w := w) (base := base) bt ct (PySem.W.mg_of X G a6) F6 
  have O_normal := ok_normal (P := l.prog) (w := w) (base := base) bt ct (PySem.W.mg_of X G a8) F8 
  have O_negative := ok_negative (P := l.prog) (w := w) (base := base) bt ct (PySem.W.mg_of X G a9) F9 
  have O__law_common := ok__law_common (P := l.prog) (w := w) (base := base) bt ct (PySem.W.mg_of X G a28) F28 
  have O__law_same := ok__law_same (P := l.prog) (w := w) (base := base) bt ct (PySem.W.mg_of X G a30) F30 
  have O__law_opposite := ok__law_opposite (P := l.prog) (w := w) (base := base) bt ct (PySem.W.mg_of X G a32) F32 
  have O_is_number := ok_is_number (P := l.prog) (w := w) (base := base) bt ct (PySem.W.mg_of X G a7) F7 O_is_integer
  have O_added := ok_added (P := l.prog) (w := w) (base := base) bt ct (PySem.W.mg_of X G a10) F10 O_normal
  have O_multiplied := ok_multiplied (P := l.prog) (w := w) (base := base) bt ct (PySem.W.mg_of X G a12) F12 O_normal
  have O__law_pick := ok__law_pick (P := l.prog) (w := w) (base := base) bt ct (PySem.W.mg_of X G a26) F26 O__law_draw
  have O__law_integer := ok__law_integer (P := l.prog) (w := w) (base := base) bt ct (PySem.W.mg_of X G a27) F27 O__law_draw
  have O__law_least := ok__law_least (P := l.prog) (w := w) (base := base) bt ct (PySem.W.mg_of X G a29) F29 O__law_common
  have O_taken := ok_taken (P := l.prog) (w := w) (base := base) bt ct (PySem.W.mg_of X G a11) F11 O_added O_negative
  have O_divided := ok_divided (P := l.prog) (w := w) (base := base) bt ct (PySem.W.mg_of X G a13) F13 O_multiplied O_normal
  have O_need_numbers := ok_need_numbers (P := l.prog) (w := w) (base := base) bt ct (PySem.W.mg_of X G a15) F15 O_is_number
  have O_is_golden := ok_is_golden (P := l.prog) (w := w) (base := base) bt ct (PySem.W.mg_of X G a16) F16 O_is_number
  have O__law_plus := ok__law_plus (P := l.prog) (w := w) (base := base) bt ct (PySem.W.mg_of X G a31) F31 O__law_least
  have O__law_times := ok__law_times (P := l.prog) (w := w) (base := base) bt ct (PySem.W.mg_of X G a33) F33 O__law_least
  have O__law_quotient := ok__law_quotient (P := l.prog) (w := w) (base := base) bt ct (PySem.W.mg_of X G a34) F34 O__law_least
  have O__law_conjugate := ok__law_conjugate (P := l.prog) (w := w) (base := base) bt ct (PySem.W.mg_of X G a35) F35 O__law_least
  have O__law_golden := ok__law_golden (P := l.prog) (w := w) (base := base) bt ct (PySem.W.mg_of X G a36) F36 O__law_pick O__law_integer
  have O_reduced := ok_reduced (P := l.prog) (w := w) (base := base) bt ct (PySem.W.mg_of X G a17) F17 O_need_numbers O_normal
  have O_plus := ok_plus (P := l.prog) (w := w) (base := base) bt ct (PySem.W.mg_of X G a18) F18 O_need_numbers O_added
  have O_minus := ok_minus (P := l.prog) (w := w) (base := base) bt ct (PySem.W.mg_of X G a19) F19 O_need_numbers O_taken
  have O_times := ok_times (P := l.prog) (w := w) (base := base) bt ct (PySem.W.mg_of X G a20) F20 O_need_numbers O_multiplied
  have O_quotient := ok_quotient (P := l.prog) (w := w) (base := base) bt ct (PySem.W.mg_of X G a21) F21 O_need_numbers O_divided
  have O_conjugate := ok_conjugate (P := l.prog) (w := w) (base := base) bt ct (PySem.W.mg_of X G a22) F22 O_need_numbers O_normal
  have O__law_other := ok__law_other (P := l.prog) (w := w) (base := base) bt ct (PySem.W.mg_of X G a37) F37 O__law_golden O__law_draw O__law_conjugate
  have O__law_divided := ok__law_divided (P := l.prog) (w := w) (base := base) bt ct (PySem.W.mg_of X G a38) F38 O_quotient
  have O__law_is_chain_right := ok__law_is_chain_right (P := l.prog) (w := w) (base := base) bt ct (PySem.W.mg_of X G a40) F40 O__law_golden O__law_least O__law_draw O__law_same O_plus O__law_plus O_minus O__law_opposite O_times O__law_times O_quotient O__law_quotient O_conjugate O__law_conjugate
  have O__law_are_right := ok__law_are_right (P := l.prog) (w := w) (base := base) bt ct (PySem.W.mg_of X G a39) F39 O__law_least O__law_plus O__law_times O__law_draw O__law_same O__law_opposite O__law_conjugate O_reduced O_plus O_minus O_times O__law_divided O__law_quotient O_conjugate O_is_golden
  exact ok_law bt (PySem.W.mg_of X G a24) F24 F41 O__law_is_chain_right O__law_golden O__law_draw O__law_same O__law_are_right O_conjugate O_plus O_times O__law_plus O__law_other O__law_times
end K06

open PySem PySem.W PyProof.Rows in
set_option maxRecDepth 100000 in
set_option maxHeartbeats 0 in
theorem PySem.Challenge.cw_nevertwice_k06_sums_products_and_quotien_holds : PySem.Challenge.rw_nevertwice_k06_sums_products_and_quotien.Holds := by
  w_on; o_law; k_head; (case hw => w_witness2)
  k_fill
  refine ND.walkG (k := 7) (x := "_law_script") (l := PySem.Challenge.rw_nevertwice_k06_sums_products_and_quotien) rfl rfl ⟨rfl, by decide, by decide⟩ (fun w h Y => PySem.W.kIn_of Y) ?F
  case F =>
    intro w mg fa h KX G hmg
    refine' K06.all_ok KX G hmg ?a6 ?l6 ?c6 ?k6 ?a7 ?l7 ?c7 ?k7 ?a8 ?l8 ?c8 ?k8 ?a9 ?l9 ?c9 ?k9 ?a10 ?l10 ?c10 ?k10 ?a11 ?l11 ?c11 ?k11 ?a12 ?l12 ?c12 ?k12 ?a13 ?l13 ?c13 ?k13 ?a15 ?l15 ?c15 ?k15 ?a16 ?l16 ?c16 ?k16 ?a17 ?l17 ?c17 ?k17 ?a18 ?l18 ?c18 ?k18 ?a19 ?l19 ?c19 ?k19 ?a20 ?l20 ?c20 ?k20 ?a21 ?l21 ?c21 ?k21 ?a22 ?l22 ?c22 ?k22 ?a24 ?l24 ?c24 ?k24 ?a25 ?l25 ?c25 ?k25 ?a26 ?l26 ?c26 ?k26 ?a27 ?l27 ?c27 ?k27 ?a28 ?l28 ?c28 ?k28 ?a29 ?l29 ?c29 ?k29 ?a30 ?l30 ?c30 ?k30 ?a31 ?l31 ?c31 ?k31 ?a32 ?l32 ?c32 ?k32 ?a33 ?l33 ?c33 ?k33 ?a34 ?l34 ?c34 ?k34 ?a35 ?l35 ?c35 ?k35 ?a36 ?l36 ?c36 ?k36 ?a37 ?l37 ?c37 ?k37 ?a38 ?l38 ?c38 ?k38 ?a39 ?l39 ?c39 ?k39 ?a40 ?l40 ?c40 ?k40 ?a41 ?l41 ?c41 ?k41 ?z_abs ?z_bool ?z_int ?z_isinstance ?z_len ?z_list ?z_max ?z_range ?z_repr ?z_tuple ?z_gcd ?e1_DividedByZero ?e2_DividedByZero ?e3_DividedByZero ?e4_DividedByZero ?e5_DividedByZero ?r_DividedByZero_DividedByZero ?d1 ?d2
    (case a6 => k_is)
    (case l6 => k_is)
    (case c6 => k_is)
    (case k6 => k_is)
    (case a7 => k_is)
    (case l7 => k_is)
    (case c7 => k_is)
    (case k7 => k_is)
    (case a8 => k_is)
    (case l8 => k_is)
    (case c8 => k_is)
    (case k8 => k_is)
    (case a9 => k_is)
    (case l9 => k_is)
    (case c9 => k_is)
    (case k9 => k_is)
    (case a10 => k_is)
    (case l10 => k_is)
    (case c10 => k_is)
    (case k10 => k_is)
    (case a11 => k_is)
    (case l11 => k_is)
    (case c11 => k_is)
    (case k11 => k_is)
    (case a12 => k_is)
    (case l12 => k_is)
    (case c12 => k_is)
    (case k12 => k_is)
    (case a13 => k_is)
    (case l13 => k_is)
    (case c13 => k_is)
    (case k13 => k_is)
    (case a15 => k_is)
    (case l15 => k_is)
    (case c15 => k_is)
    (case k15 => k_is)
    (case a16 => k_is)
    (case l16 => k_is)
    (case c16 => k_is)
    (case k16 => k_is)
    (case a17 => k_is)
    (case l17 => k_is)
    (case c17 => k_is)
    (case k17 => k_is)
    (case a18 => k_is)
    (case l18 => k_is)
    (case c18 => k_is)
    (case k18 => k_is)
    (case a19 => k_is)
    (case l19 => k_is)
    (case c19 => k_is)
    (case k19 => k_is)
    (case a20 => k_is)
    (case l20 => k_is)
    (case c20 => k_is)
    (case k20 => k_is)
    (case a21 => k_is)
    (case l21 => k_is)
    (case c21 => k_is)
    (case k21 => k_is)
    (case a22 => k_is)
    (case l22 => k_is)
    (case c22 => k_is)
    (case k22 => k_is)
    (case a24 => k_is)
    (case l24 => k_is)
    (case c24 => k_is)
    (case k24 => k_is)
    (case a25 => k_is)
    (case l25 => k_is)
    (case c25 => k_is)
    (case k25 => k_is)
    (case a26 => k_is)
    (case l26 => k_is)
    (case c26 => k_is)
    (case k26 => k_is)
    (case a27 => k_is)
    (case l27 => k_is)
    (case c27 => k_is)
    (case k27 => k_is)
    (case a28 => k_is)
    (case l28 => k_is)
    (case c28 => k_is)
    (case k28 => k_is)
    (case a29 => k_is)
    (case l29 => k_is)
    (case c29 => k_is)
    (case k29 => k_is)
    (case a30 => k_is)
    (case l30 => k_is)
    (case c30 => k_is)
    (case k30 => k_is)
    (case a31 => k_is)
    (case l31 => k_is)
    (case c31 => k_is)
    (case k31 => k_is)
    (case a32 => k_is)
    (case l32 => k_is)
    (case c32 => k_is)
    (case k32 => k_is)
    (case a33 => k_is)
    (case l33 => k_is)
    (case c33 => k_is)
    (case k33 => k_is)
    (case a34 => k_is)
    (case l34 => k_is)
    (case c34 => k_is)
    (case k34 => k_is)
    (case a35 => k_is)
    (case l35 => k_is)
    (case c35 => k_is)
    (case k35 => k_is)
    (case a36 => k_is)
    (case l36 => k_is)
    (case c36 => k_is)
    (case k36 => k_is)
    (case a37 => k_is)
    (case l37 => k_is)
    (case c37 => k_is)
    (case k37 => k_is)
    (case a38 => k_is)
    (case l38 => k_is)
    (case c38 => k_is)
    (case k38 => k_is)
    (case a39 => k_is)
    (case l39 => k_is)
    (case c39 => k_is)
    (case k39 => k_is)
    (case a40 => k_is)
    (case l40 => k_is)
    (case c40 => k_is)
    (case k40 => k_is)
    (case a41 => k_is)
    (case l41 => k_is)
    (case c41 => k_is)
    (case k41 => k_is)
    (case z_abs => k_is)
    (case z_bool => k_is)
    (case z_int => k_is)
    (case z_isinstance => k_is)
    (case z_len => k_is)
    (case z_list => k_is)
    (case z_max => k_is)
    (case z_range => k_is)
    (case z_repr => k_is)
    (case z_tuple => k_is)
    (case z_gcd => k_is)
    (case e1_DividedByZero => k_is)
    (case e2_DividedByZero => k_exc)
    (case e3_DividedByZero => k_is)
    (case e4_DividedByZero => k_is)
    (case e5_DividedByZero => k_is)
    (case r_DividedByZero_DividedByZero => k_is)
    (case d1 => kernel_rfl)
    (case d2 => k_is)
