import PyProof.Rows.All
import Wide.All
import OpenK.AllK
import Wide.FinOn
import HandS.ForMost
import HandS.ForExc
import HandS.Wide
import HandS.Flow
import HandS.TupAny
import HandS.TupLe
import HandS.Style
import HandS.Deep
import HandS.Codes
import HandS.Zip
import HandS.Gcd
import HandS.IsInst
import HandS.Text
import HandS.Conv
import HandS.WordsDict
import HandS.RaiseMore
import KE.KMathG
import PyProof.StrBlock2
import HandS.WordsExc
import HandS.EndBits
import HandS.Dict
import HandS.Small
import PySem.Challenge.RW_nevertwice_k07_signs_order_and_integers
set_option Elab.async false
set_option maxRecDepth 100000
set_option maxHeartbeats 2000000
/-! ND1: data by value over HandS's abstract heap: D, Rep, the growth of a heap, the state of a body, expressions' and statements' judgements -/
namespace ND
open PySem PySem.Spec PyProof.Rows L2

/-- a value by value -/
inductive D where
  | non | bl (b : Bool) | int (i : Int) | str (x : Str)
  | tup (xs : List D) | lst (xs : List D)
  | dic (kvs : List (Key × D))
  | obj (C : Str) (fs : List (Str × D))
  | opq (v : V)

/-- the written part, the module's names -/
structure Kn where
  K : PySem.W.Frag
  mg : Str → Option Value
mutual
/-- v is d, by the frozen part F -/
inductive Rep (K : Kn) (F : Hp) : V → D → Prop
  | non : Rep K F .non .non
  | bl (b : Bool) : Rep K F (.bl b) (.bl b)
  | int (i : Int) : Rep K F (.int i) (.int i)
  | str (x : Str) : Rep K F (.str x) (.str x)
  | tup {a : Addr} {xs : List V} {ds : List D} : SqT K.K F a xs → Reps K F xs ds → Rep K F (.ref a) (.tup ds)
  | lst {a : Addr} {xs : List V} {ds : List D} : F a = some (.lst xs) → Reps K F xs ds → Rep K F (.ref a) (.lst ds)
  | dic {a : Addr} {kvs : List (Key × V)} {ds : List (Key × D)} : F a = some (.dK kvs) → RepKs K F kvs ds → Rep K F (.ref a) (.dic ds)
  | obj {a C dx : Addr} {n : Str} {fs : List (Str × V)} {ds : List (Str × D)} : K.mg n = some (.ref C) → F a = some (.ins C dx fs) → RepFs K F fs ds → Rep K F (.ref a) (.obj n ds)
  | opq (v : V) : Rep K F v (.opq v)
inductive Reps (K : Kn) (F : Hp) : List V → List D → Prop
  | nil : Reps K F [] []
  | cons {v : V} {vs : List V} {d : D} {ds : List D} : Rep K F v d → Reps K F vs ds → Reps K F (v :: vs) (d :: ds)
inductive RepKs (K : Kn) (F : Hp) : List (Key × V) → List (Key × D) → Prop
  | nil : RepKs K F [] []
  | cons {k : Key} {v : V} {vs : List (Key × V)} {d : D} {ds : List (Key × D)} : Rep K F v d → RepKs K F vs ds → RepKs K F ((k, v) :: vs) ((k, d) :: ds)
inductive RepFs (K : Kn) (F : Hp) : List (Str × V) → List (Str × D) → Prop
  | nil : RepFs K F [] []
  | cons {k : Str} {v : V} {vs : List (Str × V)} {d : D} {ds : List (Str × D)} : Rep K F v d → RepFs K F vs ds → RepFs K F ((k, v) :: vs) ((k, d) :: ds)
end

theorem same_t {K : PySem.W.Frag} {H H' : Hp} {a : Addr} {xs : List V} (e : Same H H') (h : SqT K H a xs) : SqT K H' a xs := by
  rcases h with (h | ⟨o, h⟩) | h
  · exact .inl (.inl (e _ _ h))
  · exact .inl (.inr ⟨o, e _ _ h⟩)
  · exact .inr h
theorem same_new {H : Hp} {p : Addr} {o : HO} (h : H p = none) : Same H (upd H p o) := fun b x e => by
  rw [upd_ne (ne_of_none e h)]
  exact e

mutual
theorem Rep.mono {K : Kn} {F F' : Hp} (e : Same F F') : ∀ {v : V} {d : D}, Rep K F v d → Rep K F' v d
  | _, _, .non => .non
  | _, _, .bl b => .bl b
  | _, _, .int i => .int i
  | _, _, .str x => .str x
  | _, _, .tup h r => .tup (same_t e h) (Reps.mono e r)
  | _, _, .lst h r => .lst (e _ _ h) (Reps.mono e r)
  | _, _, .dic h r => .dic (e _ _ h) (RepKs.mono e r)
  | _, _, .obj n h r => .obj n (e _ _ h) (RepFs.mono e r)
  | _, _, .opq v => .opq v
theorem Reps.mono {K : Kn} {F F' : Hp} (e : Same F F') : ∀ {v : List V} {d : List D}, Reps K F v d → Reps K F' v d
  | _, _, .nil => .nil
  | _, _, .cons r t => .cons (Rep.mono e r) (Reps.mono e t)
theorem RepKs.mono {K : Kn} {F F' : Hp} (e : Same F F') : ∀ {v : List (Key × V)} {d : List (Key × D)}, RepKs K F v d → RepKs K F' v d
  | _, _, .nil => .nil
  | _, _, .cons r t => .cons (Rep.mono e r) (RepKs.mono e t)
theorem RepFs.mono {K : Kn} {F F' : Hp} (e : Same F F') : ∀ {v : List (Str × V)} {d : List (Str × D)}, RepFs K F v d → RepFs K F' v d
  | _, _, .nil => .nil
  | _, _, .cons r t => .cons (Rep.mono e r) (RepFs.mono e t)
end

theorem Reps.length {K : Kn} {F : Hp} : ∀ {v : List V} {d : List D}, Reps K F v d → v.length = d.length
  | _, _, .nil => rfl
  | _, _, .cons _ t => by rw [List.length_cons, List.length_cons, Reps.length t]
theorem Reps.get {K : Kn} {F : Hp} : ∀ {v : List V} {d : List D} {i : Nat} {x : D}, Reps K F v d → d[i]? = some x → ∃ u, v[i]? = some u ∧ Rep K F u x
  | _, _, _, _, .nil, e => by simp at e
  | _, _, 0, x, .cons r _, e => by simp at e; subst e; exact ⟨_, rfl, r⟩
  | _, _, i + 1, x, .cons _ t, e => by
    obtain ⟨u, h1, h2⟩ := Reps.get (i := i) (x := x) t (by simpa using e)
    exact ⟨u, by simpa using h1, h2⟩
theorem Reps.getV {K : Kn} {F : Hp} : ∀ {v : List V} {d : List D} {i : Nat} {u : V}, Reps K F v d → v[i]? = some u → ∃ x, d[i]? = some x ∧ Rep K F u x
  | _, _, _, _, .nil, e => by simp at e
  | _, _, 0, x, .cons r _, e => by simp at e; subst e; exact ⟨_, rfl, r⟩
  | _, _, i + 1, x, .cons _ t, e => by
    obtain ⟨u, h1, h2⟩ := Reps.getV (i := i) (u := x) t (by simpa using e)
    exact ⟨u, by simpa using h1, h2⟩
theorem Reps.append {K : Kn} {F : Hp} : ∀ {v v' : List V} {d d' : List D}, Reps K F v d → Reps K F v' d' → Reps K F (v ++ v') (d ++ d')
  | _, _, _, _, .nil, h => h
  | _, _, _, _, .cons r t, h => .cons r (Reps.append t h)
theorem Reps.take {K : Kn} {F : Hp} : ∀ {v : List V} {d : List D} (n : Nat), Reps K F v d → Reps K F (v.take n) (d.take n)
  | _, _, 0, _ => .nil
  | _, _, n + 1, .nil => .nil
  | _, _, n + 1, .cons r t => .cons r (Reps.take n t)
theorem Reps.drop {K : Kn} {F : Hp} : ∀ {v : List V} {d : List D} (n : Nat), Reps K F v d → Reps K F (v.drop n) (d.drop n)
  | _, _, 0, h => h
  | _, _, n + 1, .nil => .nil
  | _, _, n + 1, .cons _ t => Reps.drop n t
theorem Reps.reverse {K : Kn} {F : Hp} : ∀ {v : List V} {d : List D}, Reps K F v d → Reps K F v.reverse d.reverse
  | _, _, .nil => .nil
  | _, _, .cons r t => by
    rw [List.reverse_cons, List.reverse_cons]
    exact Reps.append (Reps.reverse t) (.cons r .nil)
theorem Reps.set {K : Kn} {F : Hp} {u : V} {x : D} (h : Rep K F u x) : ∀ {v : List V} {d : List D} (n : Nat), Reps K F v d → Reps K F (v.set n u) (d.set n x)
  | _, _, _, .nil => .nil
  | _, _, 0, .cons _ t => .cons h t
  | _, _, n + 1, .cons r t => .cons r (Reps.set h n t)
theorem Reps.of_all {K : Kn} {F : Hp} : ∀ {v : List V} {d : List D}, v.length = d.length → (∀ (i : Nat) (u : V) (x : D), v[i]? = some u → d[i]? = some x → Rep K F u x) → Reps K F v d
  | [], [], _, _ => .nil
  | u :: v, x :: d, hl, h => .cons (h 0 u x rfl rfl) (Reps.of_all (by simpa using hl) fun i u' x' e1 e2 => h (i + 1) u' x' (by simpa using e1) (by simpa using e2))
theorem reps_ints {K : Kn} {F : Hp} : ∀ ns : List Int, Reps K F (ns.map V.int) (ns.map D.int)
  | [] => .nil
  | n :: ns => .cons (.int n) (reps_ints ns)

/-! ### the deck: the one object that calls change -/
abbrev WD := Option (Addr × Addr)
def InW (W : WD) (a : Addr) : Prop := ∃ p, W = some p ∧ (a = p.1 ∨ a = p.2)
/-- the dict at p.1 with the keys left (the list at p.2), mixed, draws -/
def deckO (l : Addr) (m n : Int) : HO := .dK [(.inr "left", .ref l), (.inr "mixed", .int m), (.inr "draws", .int n)]
structure DeckAt (p : Addr × Addr) (F H : Hp) : Prop where
  fd : F p.1 = none
  fl : F p.2 = none
  ne : p.1 ≠ p.2
  st : ∃ (ns : List Int) (m n : Int), H p.1 = some (deckO p.2 m n) ∧ H p.2 = some (.lst (ns.map V.int)) ∧ ns.length ≤ 63 ∧ 0 ≤ m ∧ m < 2147483587
def DeckIn (W : WD) (F H : Hp) : Prop := ∀ p, W = some p → DeckAt p F H
theorem deckIn_none {F H : Hp} : DeckIn none F H := fun _ h => nomatch h
theorem DeckIn.w {W : WD} {F H : Hp} {a : Addr} (h : DeckIn W F H) (w : InW W a) : F a = none ∧ H a ≠ none := by
  obtain ⟨p, rfl, e⟩ := w
  have z := h p rfl
  obtain ⟨ns, m, n, h1, h2, _⟩ := z.st
  rcases e with e | e <;> subst e
  · exact ⟨z.fd, by rw [h1]; exact Option.some_ne_none _⟩
  · exact ⟨z.fl, by rw [h2]; exact Option.some_ne_none _⟩
/-- the deck stands where its objects stand -/
theorem DeckIn.keep {W : WD} {F H F' H' : Hp} (h : DeckIn W F H) (hf : ∀ a, InW W a → F' a = F a) (hh : ∀ a, InW W a → H' a = H a) : DeckIn W F' H' := fun p e => by
  have z := h p e
  have i1 : InW W p.1 := ⟨p, e, .inl rfl⟩
  have i2 : InW W p.2 := ⟨p, e, .inr rfl⟩
  obtain ⟨ns, m, n, h1, h2, r⟩ := z.st
  exact ⟨by rw [hf _ i1]; exact z.fd, by rw [hf _ i2]; exact z.fl, z.ne, ns, m, n, by rw [hh _ i1]; exact h1, by rw [hh _ i2]; exact h2, r⟩

/-! ### growth -/
structure Grow (W : WD) (F H F' H' : Hp) : Prop where
  ff : Same F F'
  fh : Same F' H'
  hh : ∀ a o, H a = some o → ¬ InW W a → H' a = some o
  new : ∀ a, F a = none → H a ≠ none → F' a = none
  keep : ∀ a, H a ≠ none → H' a ≠ none
section
variable {W : WD} {F H F1 H1 F2 H2 : Hp} {p : Addr} {o : HO}
theorem Grow.refl (h : Same F H) : Grow W F H F H := ⟨Same.refl F, h, fun _ _ e _ => e, fun _ e _ => e, fun _ e => e⟩
theorem Grow.trans (a : Grow W F H F1 H1) (b : Grow W F1 H1 F2 H2) : Grow W F H F2 H2 :=
  ⟨a.ff.trans b.ff, b.fh, fun x o e w => b.hh x o (a.hh x o e w) w, fun x e n => b.new x (a.new x e n) (a.keep x n), fun x n => b.keep x (a.keep x n)⟩
theorem Grow.back (g : Grow W F H F1 H1) {a : Addr} (h : H1 a = none) : H a = none := by
  cases e : H a with
  | none => rfl
  | some o => exact absurd h (g.keep a (by rw [e]; exact Option.some_ne_none _))
theorem upd_keep {H : Hp} {p a : Addr} {o : HO} (h : H a ≠ none) : upd H p o a ≠ none := by
  by_cases e : a = p
  · subst e
    rw [upd_same]
    exact Option.some_ne_none _
  · rw [upd_ne e]
    exact h
/-- a new tracked object -/
theorem Grow.laid (e : Same F H) (h : H p = none) : Grow W F H F (upd H p o) :=
  ⟨Same.refl F, e.trans (same_new h), fun a u q _ => same_new h a u q, fun _ q _ => q, fun _ q => upd_keep q⟩
theorem same_upd2 (e : Same F H) : Same (upd F p o) (upd H p o) := fun a u q => by
  by_cases z : a = p
  · subst z
    rw [upd_same] at q ⊢
    exact q
  · rw [upd_ne z] at q ⊢
    exact e a u q
/-- a new frozen object -/
theorem Grow.frz (e : Same F H) (h : H p = none) : Grow W F H (upd F p o) (upd H p o) :=
  ⟨same_new (e.free h), same_upd2 e, fun a u q _ => same_new h a u q, fun a q n => by
    have z : a ≠ p := fun z => n (by rw [z]; exact h)
    rw [upd_ne z]
    exact q, fun _ q => upd_keep q⟩
/-- what is new and tracked becomes frozen -/
theorem Grow.freeze {F' H' : Hp} (g : Grow W F H F' H') (hp : H p = none) (fp : F' p = none) (h : H' p = some o) : Grow W F H (upd F' p o) H' :=
  ⟨g.ff.trans (same_new fp), fun a u q => by
    by_cases z : a = p
    · subst z
      rw [upd_same] at q
      rw [h]
      exact q
    · rw [upd_ne z] at q
      exact g.fh a u q, g.hh, fun a q n => by
    have z : a ≠ p := fun z => n (by rw [z]; exact hp)
    rw [upd_ne z]
    exact g.new a q n, g.keep⟩
theorem DeckIn.freeze {F' H' : Hp} (d0 : DeckIn W F H) (d : DeckIn W F' H') (hp : H p = none) : DeckIn W (upd F' p o) H' :=
  d.keep (fun a w => upd_ne fun z => (d0.w w).2 (by rw [z]; exact hp)) fun _ _ => rfl
theorem DeckIn.laid (d : DeckIn W F H) (h : H p = none) : DeckIn W F (upd H p o) :=
  d.keep (fun _ _ => rfl) fun a w => upd_ne fun z => (d.w w).2 (by rw [z]; exact h)
theorem DeckIn.frz (d : DeckIn W F H) (h : H p = none) : DeckIn W (upd F p o) (upd H p o) :=
  d.keep (fun a w => upd_ne fun z => (d.w w).2 (by rw [z]; exact h)) fun a w => upd_ne fun z => (d.w w).2 (by rw [z]; exact h)
end

/-! ### the state of a body -/
/-- a slot: nothing known, data, a list or a dict of one's own -/
inductive SV where
  | no | d (x : D) | ol (xs : List D) | od (kvs : List (Key × D))
/-- where a body began -/
structure Bs where
  W : WD
  F : Hp
  H : Hp
def SlotR (K : Kn) (F H : Hp) : SV → Option Addr → Option V → Prop
  | .no, none, _ => True
  | .d x, none, some v => Rep K F v x
  | .ol xs, some a, some v => v = .ref a ∧ ∃ vs, H a = some (.lst vs) ∧ Reps K F vs xs
  | .od ks, some a, some v => v = .ref a ∧ ∃ vs, H a = some (.dK vs) ∧ RepKs K F vs ks
  | _, _, _ => False
structure Own (B : Bs) (F : Hp) (own : Nat → Option Addr) : Prop where
  inj : ∀ i j a, own i = some a → own j = some a → i = j
  free : ∀ i a, own i = some a → B.H a = none ∧ F a = none
structure Rel (B : Bs) (K : Kn) (σ : List SV) (s : L2.St) (F H : Hp) : Prop where
  base : Grow B.W B.F B.H F H
  bdk : DeckIn B.W B.F B.H
  deck : DeckIn B.W F H
  len : σ.length = s.length
  slots : ∃ own, Own B F own ∧ ∀ (i : Nat) x v, σ[i]? = some x → s[i]? = some v → SlotR K F H x (own i) v
section
variable {B : Bs} {K : Kn} {σ : List SV} {s : L2.St} {F H F' H' : Hp}
theorem Rel.ex (R : Rel B K σ s F H) : Same F H := R.base.fh
theorem Own.notW {own : Nat → Option Addr} (O : Own B F own) (R : DeckIn B.W B.F B.H) {i : Nat} {a : Addr} (h : own i = some a) : ¬ InW B.W a := fun w => (R.w w).2 (O.free i a h).1
theorem SlotR.mono {x : SV} {w : Option Addr} {v : Option V} (h : SlotR K F H x w v) (e : Same F F') (k : ∀ a o, w = some a → H a = some o → H' a = some o) : SlotR K F' H' x w v := by
  cases x <;> cases w <;> cases v <;> first
    | exact h
    | exact False.elim h
    | skip
  · exact Rep.mono e h
  · obtain ⟨h1, vs, h2, h3⟩ := h
    exact ⟨h1, vs, k _ _ rfl h2, Reps.mono e h3⟩
  · obtain ⟨h1, vs, h2, h3⟩ := h
    exact ⟨h1, vs, k _ _ rfl h2, RepKs.mono e h3⟩
theorem SlotR.there {x : SV} {a : Addr} {v : Option V} (h : SlotR K F H x (some a) v) : H a ≠ none := by
  cases x <;> cases v <;> first
    | exact False.elim h
    | (obtain ⟨_, vs, h2, _⟩ := h; rw [h2]; exact Option.some_ne_none _)
theorem Rel.grow (R : Rel B K σ s F H) (g : Grow B.W F H F' H') (d : DeckIn B.W F' H') : Rel B K σ s F' H' := by
  obtain ⟨own, O, h⟩ := R.slots
  have key : ∀ i x, σ[i]? = some x → ∃ v, s[i]? = some v := fun i x e => by
    have h1 : i < s.length := by rw [← R.len]; exact (List.getElem?_eq_some_iff.mp e).1
    exact ⟨s[i], List.getElem?_eq_getElem h1⟩
  -- an owned address out of the slots is of no use: forget it
  refine ⟨R.base.trans g, R.bdk, d, R.len, fun i => if i < σ.length then own i else none, ⟨fun i j a e1 e2 => ?_, fun i a e => ?_⟩, fun i x v e1 e2 => ?_⟩
  · split at e1 <;> split at e2 <;> first | exact O.inj i j a e1 e2 | cases e1 | cases e2
  · split at e
    · rename_i hi
      obtain ⟨h1, h2⟩ := O.free i a e
      refine ⟨h1, g.new a h2 ?_⟩
      obtain ⟨v, ev⟩ := key i σ[i] (by simp [hi])
      have q := h i σ[i] v (by simp [hi]) ev
      rw [e] at q
      exact q.there
    · cases e
  · have hi : i < σ.length := (List.getElem?_eq_some_iff.mp e1).1
    dsimp only
    rw [if_pos hi]
    exact (h i x v e1 e2).mono g.ff fun a o e q => g.hh a o q (O.notW R.bdk e)
/-- a slot takes data -/
theorem Rel.set (R : Rel B K σ s F H) {i : Nat} {v : V} {x : D} (h : Rep K F v x) : Rel B K (σ.set i (.d x)) (s.set i (some v)) F H := by
  obtain ⟨own, O, q⟩ := R.slots
  refine ⟨R.base, R.bdk, R.deck, by rw [List.length_set, List.length_set]; exact R.len, fun j => if j = i then none else own j, ⟨fun a b c e1 e2 => ?_, fun a b e => ?_⟩, fun j y u e1 e2 => ?_⟩
  · split at e1 <;> split at e2 <;> first | exact O.inj a b c e1 e2 | cases e1 | cases e2
  · split at e
    · cases e
    · exact O.free a b e
  · by_cases z : j = i
    · subst z
      have h1 : j < σ.length := by
        have := (List.getElem?_eq_some_iff.mp e1).1
        rwa [List.length_set] at this
      have h2 : j < s.length := by rw [← R.len]; exact h1
      rw [List.getElem?_set_self h1] at e1
      rw [List.getElem?_set_self h2] at e2
      cases e1
      cases e2
      dsimp only
      rw [if_pos rfl]
      exact h
    · rw [List.getElem?_set_ne (Ne.symm z)] at e1 e2
      dsimp only
      rw [if_neg z]
      exact q j y u e1 e2
/-- a slot is forgotten -/
theorem Rel.drop (R : Rel B K σ s F H) {i : Nat} {v : Option V} : Rel B K (σ.set i .no) (s.set i v) F H := by
  obtain ⟨own, O, q⟩ := R.slots
  refine ⟨R.base, R.bdk, R.deck, by rw [List.length_set, List.length_set]; exact R.len, fun j => if j = i then none else own j, ⟨fun a b c e1 e2 => ?_, fun a b e => ?_⟩, fun j y u e1 e2 => ?_⟩
  · split at e1 <;> split at e2 <;> first | exact O.inj a b c e1 e2 | cases e1 | cases e2
  · split at e
    · cases e
    · exact O.free a b e
  · by_cases z : j = i
    · subst z
      have h1 : j < σ.length := by
        have := (List.getElem?_eq_some_iff.mp e1).1
        rwa [List.length_set] at this
      rw [List.getElem?_set_self h1] at e1
      cases e1
      dsimp only
      rw [if_pos rfl]
      trivial
    · rw [List.getElem?_set_ne (Ne.symm z)] at e1 e2
      dsimp only
      rw [if_neg z]
      exact q j y u e1 e2
/-- a slot takes a new object of one's own -/
theorem Rel.setNew (R : Rel B K σ s F H) {i : Nat} {p : Addr} {x : SV} (g : Grow B.W F H F' H') (dk : DeckIn B.W F' H') (hp : H p = none) (fp : F' p = none) (h : SlotR K F' H' x (some p) (some (.ref p))) : Rel B K (σ.set i x) (s.set i (some (.ref p))) F' H' := by
  have R2 := R.grow g dk
  obtain ⟨own, O, q⟩ := R.slots
  have nop : ∀ j a, j < σ.length → own j = some a → H a ≠ none := fun j a hj e => by
    have h2 : j < s.length := by rw [← R.len]; exact hj
    have w := q j σ[j] s[j] (by simp [hj]) (by simp [h2])
    rw [e] at w
    exact w.there
  have bp : B.H p = none := R.base.back hp
  refine ⟨R2.base, R.bdk, R2.deck, by rw [List.length_set, List.length_set]; exact R.len, fun j => if j = i then some p else if j < σ.length then own j else none, ⟨fun a b c e1 e2 => ?_, fun a b e => ?_⟩, fun j y u e1 e2 => ?_⟩
  · split at e1 <;> split at e2 <;> (try split at e1) <;> (try split at e2) <;> (try cases e1) <;> (try cases e2) <;> (try subst_vars) <;> first
      | rfl
      | exact absurd hp (nop _ _ (by assumption) (by assumption))
      | (exact O.inj _ _ _ (by assumption) (by assumption))
  · split at e
    · cases e
      exact ⟨bp, fp⟩
    · split at e
      · rename_i hl
        obtain ⟨h1, h2⟩ := O.free a b e
        exact ⟨h1, g.new b h2 (nop a b hl e)⟩
      · cases e
  · by_cases z : j = i
    · subst z
      have h1 : j < σ.length := by
        have := (List.getElem?_eq_some_iff.mp e1).1
        rwa [List.length_set] at this
      have h2 : j < s.length := by rw [← R.len]; exact h1
      rw [List.getElem?_set_self h1] at e1
      rw [List.getElem?_set_self h2] at e2
      cases e1
      cases e2
      dsimp only
      rw [if_pos rfl]
      exact h
    · rw [List.getElem?_set_ne (Ne.symm z)] at e1 e2
      have hj : j < σ.length := (List.getElem?_eq_some_iff.mp e1).1
      dsimp only
      rw [if_neg z, if_pos hj]
      exact (q j y u e1 e2).mono g.ff fun a o' e w => g.hh a o' w (O.notW R.bdk e)
/-- what a slot with an object of one's own holds -/
theorem Rel.ownL (R : Rel B K σ s F H) {i : Nat} {xs : List D} (h : σ[i]? = some (.ol xs)) : ∃ a vs, s[i]? = some (some (.ref a)) ∧ H a = some (.lst vs) ∧ Reps K F vs xs ∧ ¬ InW B.W a ∧ F a = none ∧ B.H a = none := by
  obtain ⟨own, O, q⟩ := R.slots
  have h1 : i < s.length := by rw [← R.len]; exact (List.getElem?_eq_some_iff.mp h).1
  have w := q i _ s[i] h (by simp [h1])
  cases e : own i with
  | none =>
    rw [e] at w
    exact False.elim (by cases s[i] <;> exact w)
  | some a =>
    rw [e] at w
    cases e2 : s[i] with
    | none =>
      rw [e2] at w
      exact False.elim w
    | some v =>
      rw [e2] at w
      obtain ⟨rfl, vs, h2, h3⟩ := w
      exact ⟨a, vs, by rw [List.getElem?_eq_getElem h1, e2], h2, h3, O.notW R.bdk e, (O.free i a e).2, (O.free i a e).1⟩
theorem Rel.ownD (R : Rel B K σ s F H) {i : Nat} {xs : List (Key × D)} (h : σ[i]? = some (.od xs)) : ∃ a vs, s[i]? = some (some (.ref a)) ∧ H a = some (.dK vs) ∧ RepKs K F vs xs ∧ ¬ InW B.W a ∧ F a = none ∧ B.H a = none := by
  obtain ⟨own, O, q⟩ := R.slots
  have h1 : i < s.length := by rw [← R.len]; exact (List.getElem?_eq_some_iff.mp h).1
  have w := q i _ s[i] h (by simp [h1])
  cases e : own i with
  | none =>
    rw [e] at w
    exact False.elim (by cases s[i] <;> exact w)
  | some a =>
    rw [e] at w
    cases e2 : s[i] with
    | none =>
      rw [e2] at w
      exact False.elim w
    | some v =>
      rw [e2] at w
      obtain ⟨rfl, vs, h2, h3⟩ := w
      exact ⟨a, vs, by rw [List.getElem?_eq_getElem h1, e2], h2, h3, O.notW R.bdk e, (O.free i a e).2, (O.free i a e).1⟩
theorem Rel.dat (R : Rel B K σ s F H) {i : Nat} {x : D} (h : σ[i]? = some (.d x)) : ∃ v, s[i]? = some (some v) ∧ Rep K F v x := by
  obtain ⟨own, O, q⟩ := R.slots
  have h1 : i < s.length := by rw [← R.len]; exact (List.getElem?_eq_some_iff.mp h).1
  have w := q i _ s[i] h (by simp [h1])
  cases e : own i with
  | some a =>
    rw [e] at w
    exact False.elim (by cases s[i] <;> exact w)
  | none =>
    rw [e] at w
    cases e2 : s[i] with
    | none =>
      rw [e2] at w
      exact False.elim w
    | some v =>
      rw [e2] at w
      exact ⟨v, by rw [List.getElem?_eq_getElem h1, e2], w⟩
/-- an object of one's own is written -/
theorem Rel.write (R : Rel B K σ s F H) {i : Nat} {a : Addr} {o : HO} {x y : SV} (hx : σ[i]? = some y) (hy : (∃ xs, y = .ol xs) ∨ ∃ ks, y = .od ks) (hs : s[i]? = some (some (.ref a))) (h : SlotR K F (upd H a o) x (some a) (some (.ref a))) : Rel B K (σ.set i x) s F (upd H a o) := by
  obtain ⟨own, O, q⟩ := R.slots
  have w := q i _ _ hx hs
  have hi : i < σ.length := (List.getElem?_eq_some_iff.mp hx).1
  have eo : own i = some a := by
    cases e : own i with
    | none =>
      rw [e] at w
      rcases hy with ⟨_, rfl⟩ | ⟨_, rfl⟩ <;> exact False.elim w
    | some b =>
      rw [e] at w
      rcases hy with ⟨_, rfl⟩ | ⟨_, rfl⟩
      · obtain ⟨e2, _⟩ := w
        cases e2
        rfl
      · obtain ⟨e2, _⟩ := w
        cases e2
        rfl
  obtain ⟨b0, f0⟩ := O.free i a eo
  have nw := O.notW R.bdk eo
  have nb : ∀ b u, B.H b = some u → b ≠ a := fun b u e z => by rw [z, b0] at e; cases e
  refine ⟨⟨R.base.ff, fun b u e => ?_, fun b u e n => ?_, R.base.new, fun b n => upd_keep (R.base.keep b n)⟩, R.bdk, R.deck.keep (fun _ _ => rfl) fun b z => upd_ne fun e => nw (by rw [← e]; exact z), by rw [List.length_set]; exact R.len, own, O, fun j y' u e1 e2 => ?_⟩
  · have z : b ≠ a := fun z => by rw [z, f0] at e; cases e
    rw [upd_ne z]
    exact R.ex b u e
  · rw [upd_ne (nb b u e)]
    exact R.base.hh b u e n
  · by_cases z : j = i
    · subst z
      rw [List.getElem?_set_self hi] at e1
      cases e1
      rw [hs] at e2
      cases e2
      rw [eo]
      exact h
    · rw [List.getElem?_set_ne (Ne.symm z)] at e1
      refine (q j y' u e1 e2).mono (Same.refl F) fun c o' e k => ?_
      have nc : c ≠ a := fun z' => z (O.inj j i c e (by rw [z']; exact eo))
      rw [upd_ne nc]
      exact k
/-- an object of one's own becomes data -/
theorem Rel.freeze (R : Rel B K σ s F H) {i : Nat} {a : Addr} {o : HO} {y : SV} {x : D} (hx : σ[i]? = some y) (hs : s[i]? = some (some (.ref a))) (ha : H a = some o) (hf : F a = none) (hb : B.H a = none) (hw : ¬ InW B.W a) (hy : (∃ xs, y = .ol xs) ∨ ∃ ks, y = .od ks)
    (h : Rep K (upd F a o) (.ref a) x) : Rel B K (σ.set i (.d x)) s (upd F a o) H := by
  obtain ⟨own, O, q⟩ := R.slots
  have hi : i < σ.length := (List.getElem?_eq_some_iff.mp hx).1
  have w := q i _ _ hx hs
  have eo : own i = some a := by
    cases e : own i with
    | none =>
      rw [e] at w
      rcases hy with ⟨_, rfl⟩ | ⟨_, rfl⟩ <;> exact False.elim w
    | some b =>
      rw [e] at w
      rcases hy with ⟨_, rfl⟩ | ⟨_, rfl⟩
      · obtain ⟨e2, _⟩ := w
        cases e2
        rfl
      · obtain ⟨e2, _⟩ := w
        cases e2
        rfl
  have sm : Same F (upd F a o) := same_new hf
  refine ⟨⟨R.base.ff.trans sm, fun b u e => ?_, R.base.hh, fun b e n => ?_, R.base.keep⟩, R.bdk, R.deck.keep (fun b z => upd_ne fun e => hw (by rw [← e]; exact z)) fun _ _ => rfl, by rw [List.length_set]; exact R.len,
    fun j => if j = i then none else own j, ⟨fun b c d e1 e2 => ?_, fun b c e => ?_⟩, fun j y' u e1 e2 => ?_⟩
  · by_cases z : b = a
    · subst z
      rw [upd_same] at e
      rw [ha]
      exact e
    · rw [upd_ne z] at e
      exact R.ex b u e
  · have z : b ≠ a := fun z => n (by rw [z]; exact hb)
    rw [upd_ne z]
    exact R.base.new b e n
  · split at e1 <;> split at e2 <;> first | exact O.inj b c d e1 e2 | cases e1 | cases e2
  · split at e
    · cases e
    · rename_i nz
      obtain ⟨h1, h2⟩ := O.free b c e
      refine ⟨h1, ?_⟩
      have z : c ≠ a := fun z => nz (O.inj b i c e (by rw [z]; exact eo))
      rw [upd_ne z]
      exact h2
  · by_cases z : j = i
    · subst z
      rw [List.getElem?_set_self hi] at e1
      cases e1
      rw [hs] at e2
      cases e2
      dsimp only
      rw [if_pos rfl]
      exact h
    · rw [List.getElem?_set_ne (Ne.symm z)] at e1
      dsimp only
      rw [if_neg z]
      exact (q j y' u e1 e2).mono sm fun _ _ _ k => k
end
end ND

/-! ND2: expressions -/
namespace ND
open PySem PySem.Spec L2

/-! ### judgements -/
abbrev _root_.L2.Cx.kn (X : Cx) : Kn := ⟨X.K, X.mg⟩
abbrev GE := List SV → (D → Prop) → Prop
abbrev GT := List SV → (Bool → Prop) → Prop
abbrev GA := List SV → (List D → Prop) → Prop
/-- what is borrowed: data, or an object of one's own as it stands -/
def RepB (W : WD) (K : Kn) (F H : Hp) (v : V) (d : D) : Prop :=
  Rep K F v d ∨ (∃ a ds vs, v = .ref a ∧ d = .lst ds ∧ ¬ InW W a ∧ H a = some (.lst vs) ∧ Reps K F vs ds) ∨ ∃ a ds vs, v = .ref a ∧ d = .dic ds ∧ ¬ InW W a ∧ H a = some (.dK vs) ∧ RepKs K F vs ds
theorem RepB.grow {W : WD} {K : Kn} {F H F' H' : Hp} {v : V} {d : D} (h : RepB W K F H v d) (g : Grow W F H F' H') : RepB W K F' H' v d := by
  rcases h with h | ⟨a, ds, vs, e1, e2, n, e3, r⟩ | ⟨a, ds, vs, e1, e2, n, e3, r⟩
  · exact .inl (h.mono g.ff)
  · exact .inr (.inl ⟨a, ds, vs, e1, e2, n, g.hh _ _ e3 n, r.mono g.ff⟩)
  · exact .inr (.inr ⟨a, ds, vs, e1, e2, n, g.hh _ _ e3 n, r.mono g.ff⟩)
theorem RepB.lst {W : WD} {K : Kn} {F H : Hp} {v : V} {ds : List D} (h : RepB W K F H v (.lst ds)) (e : Same F H) : ∃ a vs, v = .ref a ∧ H a = some (.lst vs) ∧ Reps K F vs ds := by
  rcases h with h | ⟨a, ds', vs, e1, e2, n, e3, r⟩ | ⟨a, ds', vs, e1, e2, n, e3, r⟩
  · cases h with
    | lst h r => exact ⟨_, _, rfl, e _ _ h, r⟩
  · cases e2
    exact ⟨a, vs, e1, e3, r⟩
  · cases e2
theorem RepB.dic {W : WD} {K : Kn} {F H : Hp} {v : V} {ds : List (Key × D)} (h : RepB W K F H v (.dic ds)) (e : Same F H) : ∃ a vs, v = .ref a ∧ H a = some (.dK vs) ∧ RepKs K F vs ds := by
  rcases h with h | ⟨a, ds', vs, e1, e2, n, e3, r⟩ | ⟨a, ds', vs, e1, e2, n, e3, r⟩
  · cases h with
    | dic h r => exact ⟨_, _, rfl, e _ _ h, r⟩
  · cases e2
  · cases e2
    exact ⟨a, vs, e1, e3, r⟩
theorem RepB.tup {W : WD} {K : Kn} {F H : Hp} {v : V} {ds : List D} (h : RepB W K F H v (.tup ds)) (e : Same F H) : ∃ a vs, v = .ref a ∧ SqT K.K F a vs ∧ SqT K.K H a vs ∧ Reps K F vs ds := by
  rcases h with h | ⟨a, ds', vs, e1, e2, n, e3, r⟩ | ⟨a, ds', vs, e1, e2, n, e3, r⟩
  · cases h with
    | tup h r => exact ⟨_, _, rfl, h, same_t e h, r⟩
  · cases e2
  · cases e2
theorem RepB.int {W : WD} {K : Kn} {F H : Hp} {v : V} {i : Int} (h : RepB W K F H v (.int i)) : v = .int i := by
  rcases h with h | ⟨a, ds', vs, e1, e2, n, e3, r⟩ | ⟨a, ds', vs, e1, e2, n, e3, r⟩
  · cases h
    rfl
  · cases e2
  · cases e2
theorem RepB.bl {W : WD} {K : Kn} {F H : Hp} {v : V} {i : Bool} (h : RepB W K F H v (.bl i)) : v = .bl i := by
  rcases h with h | ⟨a, ds', vs, e1, e2, n, e3, r⟩ | ⟨a, ds', vs, e1, e2, n, e3, r⟩
  · cases h
    rfl
  · cases e2
  · cases e2
theorem RepB.str {W : WD} {K : Kn} {F H : Hp} {v : V} {i : Str} (h : RepB W K F H v (.str i)) : v = .str i := by
  rcases h with h | ⟨a, ds', vs, e1, e2, n, e3, r⟩ | ⟨a, ds', vs, e1, e2, n, e3, r⟩
  · cases h
    rfl
  · cases e2
  · cases e2
theorem RepB.non {W : WD} {K : Kn} {F H : Hp} {v : V} (h : RepB W K F H v .non) : v = .non := by
  rcases h with h | ⟨a, ds', vs, e1, e2, n, e3, r⟩ | ⟨a, ds', vs, e1, e2, n, e3, r⟩
  · cases h
    rfl
  · cases e2
  · cases e2
theorem RepB.opq {W : WD} {K : Kn} {F H : Hp} {v u : V} (h : RepB W K F H v (.opq u)) : v = u := by
  rcases h with h | ⟨a, ds', vs, e1, e2, n, e3, r⟩ | ⟨a, ds', vs, e1, e2, n, e3, r⟩
  · cases h
    rfl
  · cases e2
  · cases e2
theorem RepB.obj {W : WD} {K : Kn} {F H : Hp} {v : V} {n : Str} {ds : List (Str × D)} (h : RepB W K F H v (.obj n ds)) (e : Same F H) : ∃ a C dx fs, K.mg n = some (.ref C) ∧ v = .ref a ∧ H a = some (.ins C dx fs) ∧ RepFs K F fs ds := by
  rcases h with h | ⟨a, ds', vs, e1, e2, n, e3, r⟩ | ⟨a, ds', vs, e1, e2, n, e3, r⟩
  · cases h with
    | obj n h r => exact ⟨_, _, _, _, n, rfl, e _ _ h, r⟩
  · cases e2
  · cases e2

/-- the data Qd are wanted: so is Q of each value that is one of them -/
def Fin (B : Bs) (K : Kn) (F H : Hp) (Qd : D → Prop) (Q : VK) : Prop := ∀ d, Qd d → ∀ F' H' v, Grow B.W F H F' H' → DeckIn B.W F' H' → Rep K F' v d → Q v H'
def FinB (B : Bs) (K : Kn) (F H : Hp) (Qd : D → Prop) (Q : VK) : Prop := ∀ d, Qd d → ∀ F' H' v, Grow B.W F H F' H' → DeckIn B.W F' H' → RepB B.W K F' H' v d → Q v H'
def FinT (B : Bs) (F H : Hp) (Qd : Bool → Prop) (Q : Bool → Hp → Prop) : Prop := ∀ b, Qd b → ∀ F' H', Grow B.W F H F' H' → DeckIn B.W F' H' → Q b H'
def FinA (B : Bs) (K : Kn) (F H : Hp) (Qd : List D → Prop) (Q : List V → Hp → Prop) : Prop := ∀ ds, Qd ds → ∀ F' H' vs, Grow B.W F H F' H' → DeckIn B.W F' H' → Reps K F' vs ds → Q vs H'
inductive RepBs (W : WD) (K : Kn) (F H : Hp) : List V → List D → Prop
  | nil : RepBs W K F H [] []
  | cons {v : V} {vs : List V} {d : D} {ds : List D} : RepB W K F H v d → RepBs W K F H vs ds → RepBs W K F H (v :: vs) (d :: ds)
def FinAB (B : Bs) (K : Kn) (F H : Hp) (Qd : List D → Prop) (Q : List V → Hp → Prop) : Prop := ∀ ds, Qd ds → ∀ F' H' vs, Grow B.W F H F' H' → DeckIn B.W F' H' → RepBs B.W K F' H' vs ds → Q vs H'
/-- a new list, not frozen yet -/
def FinF (B : Bs) (K : Kn) (F H : Hp) (Qd : List D → Prop) (Q : VK) : Prop := ∀ ds, Qd ds → ∀ F' H' p vs, Grow B.W F H F' H' → DeckIn B.W F' H' → H p = none → F' p = none → H' p = some (.lst vs) → Reps K F' vs ds → Q (.ref p) H'

def LE (B : Bs) (K : Kn) (f : GE) : TE := fun s H Q => ∃ σ F Qd, Rel B K σ s F H ∧ f σ Qd ∧ Fin B K F H Qd Q
def LB (B : Bs) (K : Kn) (f : GE) : TE := fun s H Q => ∃ σ F Qd, Rel B K σ s F H ∧ f σ Qd ∧ FinB B K F H Qd Q
def LF (B : Bs) (K : Kn) (f : GA) : TE := fun s H Q => ∃ σ F Qd, Rel B K σ s F H ∧ f σ Qd ∧ FinF B K F H Qd Q
def LT (B : Bs) (K : Kn) (f : GT) : TT := fun s H Q => ∃ σ F Qd, Rel B K σ s F H ∧ f σ Qd ∧ FinT B F H Qd Q
def LA (B : Bs) (K : Kn) (f : GA) : TA := fun s H Q => ∃ σ F Qd, Rel B K σ s F H ∧ f σ Qd ∧ FinA B K F H Qd Q
def LAB (B : Bs) (K : Kn) (f : GA) : TA := fun s H Q => ∃ σ F Qd, Rel B K σ s F H ∧ f σ Qd ∧ FinAB B K F H Qd Q
/-- an expression gives data | may be borrowed | gives a new list | a test | arguments -/
structure ED (B : Bs) (X : Cx) (e : Expr) (f : GE) : Prop where
  run : PE X e (LE B X.kn f)
structure BD (B : Bs) (X : Cx) (e : Expr) (f : GE) : Prop where
  run : PE X e (LB B X.kn f)
structure FD (B : Bs) (X : Cx) (e : Expr) (f : GA) : Prop where
  run : PE X e (LF B X.kn f)
structure TD (B : Bs) (X : Cx) (e : Expr) (f : GT) : Prop where
  run : PT X e (LT B X.kn f)
structure WDd (B : Bs) (X : Cx) (e : Expr) (f : GT) : Prop where
  run : PW X e (LT B X.kn f)
structure AD (B : Bs) (X : Cx) (es : List Expr) (f : GA) : Prop where
  run : PA X es (LA B X.kn f)
structure ABD (B : Bs) (X : Cx) (es : List Expr) (f : GA) : Prop where
  run : PA X es (LAB B X.kn f)

theorem pe_imp {X : Cx} {e : Expr} {t t' : TE} (h : PE X e t) (w : ∀ s H Q, t' s H Q → t s H Q) : PE X e t' := ⟨fun pins s σ H Q I q => h.run pins s σ H Q I (w _ _ _ q)⟩
theorem pt_imp {X : Cx} {e : Expr} {t t' : TT} (h : PT X e t) (w : ∀ s H Q, t' s H Q → t s H Q) : PT X e t' := ⟨fun pins s σ H Q I q => h.run pins s σ H Q I (w _ _ _ q)⟩
theorem pw_imp {X : Cx} {e : Expr} {t t' : TT} (h : PW X e t) (w : ∀ s H Q, t' s H Q → t s H Q) : PW X e t' := ⟨fun wh pins s σ H Q I q => h.run wh pins s σ H Q I (w _ _ _ q)⟩
theorem pa_imp {X : Cx} {e : List Expr} {t t' : TA} (h : PA X e t) (w : ∀ s H Q, t' s H Q → t s H Q) : PA X e t' := ⟨fun pos pins s σ H Q I q => h.run pos pins s σ H Q I (w _ _ _ q)⟩

section
variable {B : Bs} {X : Cx} {e a b c : Expr} {es : List Expr} {f fa fb fc : GE} {pos : Pos}
theorem Fin.more {K : Kn} {F H F' H' : Hp} {Qd : D → Prop} {Q : VK} (h : Fin B K F H Qd Q) (g : Grow B.W F H F' H') : Fin B K F' H' Qd Q := fun d q F2 H2 v g2 dk r => h d q F2 H2 v (g.trans g2) dk r
theorem FinB.more {K : Kn} {F H F' H' : Hp} {Qd : D → Prop} {Q : VK} (h : FinB B K F H Qd Q) (g : Grow B.W F H F' H') : FinB B K F' H' Qd Q := fun d q F2 H2 v g2 dk r => h d q F2 H2 v (g.trans g2) dk r
theorem FinT.more {F H F' H' : Hp} {Qd : Bool → Prop} {Q : Bool → Hp → Prop} (h : FinT B F H Qd Q) (g : Grow B.W F H F' H') : FinT B F' H' Qd Q := fun d q F2 H2 g2 dk => h d q F2 H2 (g.trans g2) dk
theorem FinA.more {K : Kn} {F H F' H' : Hp} {Qd : List D → Prop} {Q : List V → Hp → Prop} (h : FinA B K F H Qd Q) (g : Grow B.W F H F' H') : FinA B K F' H' Qd Q := fun d q F2 H2 v g2 dk r => h d q F2 H2 v (g.trans g2) dk r
theorem FinAB.more {K : Kn} {F H F' H' : Hp} {Qd : List D → Prop} {Q : List V → Hp → Prop} (h : FinAB B K F H Qd Q) (g : Grow B.W F H F' H') : FinAB B K F' H' Qd Q := fun d q F2 H2 v g2 dk r => h d q F2 H2 v (g.trans g2) dk r
theorem FinF.more {K : Kn} {F H F' H' : Hp} {Qd : List D → Prop} {Q : VK} (h : FinF B K F H Qd Q) (g : Grow B.W F H F' H') : FinF B K F' H' Qd Q := fun d q F2 H2 p vs g2 dk hp fp e r => h d q F2 H2 p vs (g.trans g2) dk (g.back hp) fp e r
/-- a list just laid -/
theorem FinF.laid {K : Kn} {F H : Hp} {Qd : List D → Prop} {Q : VK} (h : FinF B K F H Qd Q) (e : Same F H) (dk : DeckIn B.W F H) {ds : List D} {p : Addr} {vs : List V} (q : Qd ds) (hp : H p = none) (r : Reps K F vs ds) : Q (.ref p) (upd H p (.lst vs)) :=
  h ds q F _ p vs (Grow.laid e hp) (dk.laid hp) hp (e.free hp) upd_same r

theorem ED.toB (h : ED B X e f) : BD B X e f := ⟨pe_imp h.run fun s H Q ⟨σ, F, Qd, R, q, k⟩ => ⟨σ, F, Qd, R, q, fun d qd F' H' v g dk r => k d qd F' H' v g dk (.inl r)⟩⟩
/-- a new list becomes data -/
@[simp] def gFrz (f : GA) (σ : List SV) (Q : D → Prop) : Prop := f σ fun ds => Q (.lst ds)
theorem fin_frz {K : Kn} {F H : Hp} {Qd : D → Prop} {Q : VK} (d0 : DeckIn B.W F H) (k : Fin B K F H Qd Q) : FinF B K F H (fun ds => Qd (.lst ds)) Q := fun ds qd F' H' p vs g dk hp fp e r =>
  k _ qd _ _ _ (g.freeze hp fp e) (d0.freeze dk hp) (.lst upd_same (r.mono (same_new fp)))
theorem FD.toE {f : GA} (h : FD B X e f) : ED B X e (gFrz f) := ⟨pe_imp h.run fun s H Q ⟨σ, F, Qd, R, q, k⟩ => ⟨σ, F, fun ds => Qd (.lst ds), R, q, fin_frz R.deck k⟩⟩
theorem FD.toB {f : GA} (h : FD B X e f) : BD B X e (gFrz f) := h.toE.toB

/-! ### names, constants -/
@[simp] def gVar (i : Nat) (σ : List SV) (Q : D → Prop) : Prop := match σ[i]? with | some (.d x) => Q x | _ => False
@[simp] def gVarB (i : Nat) (σ : List SV) (Q : D → Prop) : Prop := match σ[i]? with | some (.d x) => Q x | some (.ol xs) => Q (.lst xs) | some (.od ks) => Q (.dic ks) | _ => False
@[simp] def gC (d : D) (_ : List SV) (Q : D → Prop) : Prop := Q d
theorem ed_var (i : Nat) {x : Str} (h : PE X (.Name x pos) (tVar i)) : ED B X (.Name x pos) (gVar i) := ⟨pe_imp h fun s H Q ⟨σ, F, Qd, R, q, k⟩ => by
  unfold gVar at q
  split at q
  · rename_i x e
    obtain ⟨v, h1, h2⟩ := R.dat e
    exact ⟨v, h1, k _ q F H v (Grow.refl R.ex) R.deck h2⟩
  · exact q.elim⟩
theorem bd_var (i : Nat) {x : Str} (h : PE X (.Name x pos) (tVar i)) : BD B X (.Name x pos) (gVarB i) := ⟨pe_imp h fun s H Q ⟨σ, F, Qd, R, q, k⟩ => by
  unfold gVarB at q
  split at q
  · rename_i x e
    obtain ⟨v, h1, h2⟩ := R.dat e
    exact ⟨v, h1, k _ q F H v (Grow.refl R.ex) R.deck (.inl h2)⟩
  · rename_i xs e
    obtain ⟨a, vs, h1, h2, h3, h4, _⟩ := R.ownL e
    exact ⟨.ref a, h1, k _ q F H _ (Grow.refl R.ex) R.deck (.inr (.inl ⟨a, xs, vs, rfl, rfl, h4, h2, h3⟩))⟩
  · rename_i xs e
    obtain ⟨a, vs, h1, h2, h3, h4, _⟩ := R.ownD e
    exact ⟨.ref a, h1, k _ q F H _ (Grow.refl R.ex) R.deck (.inr (.inr ⟨a, xs, vs, rfl, rfl, h4, h2, h3⟩))⟩
  · exact q.elim⟩
/-- a value that is known -/
theorem ed_c {v : V} {d : D} (h : PE X e (tC v)) (r : ∀ F, Rep X.kn F v d) : ED B X e (gC d) := ⟨pe_imp h fun s H Q ⟨σ, F, Qd, R, q, k⟩ => k d q F H v (Grow.refl R.ex) R.deck (r F)⟩
theorem ed_int {i : Int} {j : Nat} : ED B X (.Constant (.int i) j pos) (gC (.int i)) := ed_c pe_int fun _ => .int i
theorem ed_bl {i : Bool} {j : Nat} : ED B X (.Constant (.bool i) j pos) (gC (.bl i)) := ed_c pe_bl fun _ => .bl i
theorem ed_non {j : Nat} : ED B X (.Constant .none j pos) (gC .non) := ed_c pe_non fun _ => .non
theorem ed_str {x : Str} {j : Nat} : ED B X (.Constant (.str x) j pos) (gC (.str x)) := ed_c pe_str fun _ => .str x

/-! ### two in a row -/
theorem lb_two {K : Kn} {s : L2.St} {σ : List SV} {F H : Hp} {R2 : V → V → Hp → Prop} {Qd : D → D → Prop} (R : Rel B K σ s F H) (q : fa σ fun x => fb σ fun y => Qd x y)
    (k : ∀ x y F' H' v u, Qd x y → Grow B.W F H F' H' → DeckIn B.W F' H' → RepB B.W K F' H' v x → RepB B.W K F' H' u y → R2 v u H') : LB B K fa s H fun v H1 => LB B K fb s H1 fun u H2 => R2 v u H2 :=
  ⟨σ, F, _, R, q, fun x qx F1 H1 v g1 d1 r1 => ⟨σ, F1, _, R.grow g1 d1, qx, fun y qy F2 H2 u g2 d2 r2 => k x y F2 H2 v u qy (g1.trans g2) d2 (r1.grow g2) r2⟩⟩
/-- an operation on values, by data -/
def LO2 (B : Bs) (K : Kn) (g : D → D → (D → Prop) → Prop) : R2 := fun v u H Q => ∃ F x y Qd, Same F H ∧ DeckIn B.W F H ∧ RepB B.W K F H v x ∧ RepB B.W K F H u y ∧ g x y Qd ∧ Fin B K F H Qd Q
def LO1 (B : Bs) (K : Kn) (g : D → (D → Prop) → Prop) : V → Hp → VK → Prop := fun v H Q => ∃ F x Qd, Same F H ∧ DeckIn B.W F H ∧ RepB B.W K F H v x ∧ g x Qd ∧ Fin B K F H Qd Q
@[simp] def gBin (g : D → D → (D → Prop) → Prop) (fa fb : GE) (σ : List SV) (Q : D → Prop) : Prop := fa σ fun x => fb σ fun y => g x y Q
@[simp] def gUn (g : D → (D → Prop) → Prop) (fa : GE) (σ : List SV) (Q : D → Prop) : Prop := fa σ fun x => g x Q
variable {g : D → D → (D → Prop) → Prop}
theorem lo2_of {K : Kn} {s : L2.St} {σ : List SV} {F H : Hp} {Qd : D → Prop} {Q : VK} (R : Rel B K σ s F H) (q : gBin g fa fb σ Qd) (k : Fin B K F H Qd Q) : tOp (LO2 B K g) (LB B K fa) (LB B K fb) s H Q :=
  lb_two (Qd := fun x y => g x y Qd) R q fun x y F' H' v u q g' d r1 r2 => ⟨F', x, y, Qd, g'.fh, d, r1, r2, q, k.more g'⟩
theorem ed_bin {op : Operator} (ho : OpR X (binaryOp op) (LO2 B X.kn g)) (ha : BD B X a fa) (hb : BD B X b fb) : ED B X (.BinOp a op b pos) (gBin g fa fb) :=
  ⟨pe_imp (pe_op ho ha.run hb.run) fun s H Q ⟨σ, F, Qd, R, q, k⟩ => lo2_of R q k⟩
theorem ed_un {op : UnaryOp} {g : D → (D → Prop) → Prop} (ho : UnR X (unaryOp op) (LO1 B X.kn g)) (ha : BD B X a fa) : ED B X (.UnaryOp op a pos) (gUn g fa) :=
  ⟨pe_imp (pe_un ho ha.run) fun s H Q ⟨σ, F, Qd, R, q, k⟩ => ⟨σ, F, _, R, q, fun x qx F1 H1 v g1 d1 r1 => ⟨F1, x, Qd, g1.fh, d1, r1, qx, k.more g1⟩⟩⟩
theorem opR_imp {f : Value → Value → Sem Value} {r r' : R2} (h : OpR X f r) (w : ∀ v u H Q, r' v u H Q → r v u H Q) : OpR X f r' := fun pins s σ H x y v u Q I rx ry q => h pins s σ H x y v u Q I rx ry (w _ _ _ _ q)
theorem opR_by {f : Value → Value → Sem Value} {r' : R2} (w : ∀ v u H Q, r' v u H Q → ∃ r, OpR X f r ∧ r v u H Q) : OpR X f r' := fun pins s σ H x y v u Q I rx ry q => by
  obtain ⟨r, h, q'⟩ := w _ _ _ _ q
  exact h pins s σ H x y v u Q I rx ry q'
theorem unR_by {f : Value → Sem Value} {r' : V → Hp → VK → Prop} (w : ∀ v H Q, r' v H Q → ∃ r, UnR X f r ∧ r v H Q) : UnR X f r' := fun pins s σ H x v Q I rx q => by
  obtain ⟨r, h, q'⟩ := w _ _ _ q
  exact h pins s σ H x v Q I rx q'
theorem Fin.here {K : Kn} {F H : Hp} {Qd : D → Prop} {Q : VK} (k : Fin B K F H Qd Q) (e : Same F H) (dk : DeckIn B.W F H) {d : D} {v : V} (q : Qd d) (r : Rep K F v d) : Q v H := k d q F H v (Grow.refl e) dk r
theorem Fin.frz {K : Kn} {F H : Hp} {Qd : D → Prop} {Q : VK} (k : Fin B K F H Qd Q) (e : Same F H) (dk : DeckIn B.W F H) {d : D} {p : Addr} {o : HO} (q : Qd d) (hp : H p = none) (r : Rep K (upd F p o) (.ref p) d) : Q (.ref p) (upd H p o) :=
  k d q _ _ _ (Grow.frz e hp) (dk.frz hp) r

/-! ### arithmetic -/
/-- integers that may be multiplied -/
def MulOk (i j : Int) : Prop := i.natAbs.log2 + j.natAbs.log2 < 1000000
def DivOk (j : Int) : Prop := j ≠ 0 ∧ j.natAbs.log2 < 9000
def addD : D → D → (D → Prop) → Prop
  | .int i, .int j, Q => Q (.int (i + j))
  | .str i, .str j, Q => i.length + j.length ≤ sizeLine ∧ Q (.str (i ++ j))
  | .tup xs, .tup ys, Q => xs.length + ys.length ≤ sizeLine ∧ Q (.tup (xs ++ ys))
  | .lst xs, .lst ys, Q => xs.length + ys.length ≤ sizeLine ∧ Q (.lst (xs ++ ys))
  | _, _, _ => False
def subD : D → D → (D → Prop) → Prop
  | .int i, .int j, Q => Q (.int (i - j))
  | _, _, _ => False
def mulD : D → D → (D → Prop) → Prop
  | .int i, .int j, Q => MulOk i j ∧ Q (.int (i * j))
  | .lst xs, .int k, Q => 0 ≤ k ∧ k < 2 ^ 63 ∧ xs.length * k.toNat ≤ sizeLine ∧ Q (.lst (List.replicate k.toNat xs).flatten)
  | _, _, _ => False
/-- floors: by a positive divisor as Lean's / and % -/
def fdivD : D → D → (D → Prop) → Prop
  | .int i, .int j, Q => 0 < j ∧ j.natAbs.log2 < 9000 ∧ Q (.int (i / j))
  | _, _, _ => False
def modD : D → D → (D → Prop) → Prop
  | .int i, .int j, Q => 0 < j ∧ Q (.int (i % j))
  | _, _, _ => False
def powD : D → D → (D → Prop) → Prop
  | .int i, .int j, Q => 0 ≤ j ∧ j ≤ 1000000 ∧ i.natAbs < 2 ^ 64 ∧ Q (.int (i ^ j.toNat))
  | _, _, _ => False
def shlD : D → D → (D → Prop) → Prop
  | .int i, .int j, Q => 0 ≤ j ∧ j ≤ 1000000 ∧ i.natAbs < 2 ^ 64 ∧ Q (.int (i * 2 ^ j.toNat))
  | _, _, _ => False
def andD : D → D → (D → Prop) → Prop
  | .int i, .int j, Q => Q (.int (Builtin.bitAnd i j))
  | _, _, _ => False
def xorD : D → D → (D → Prop) → Prop
  | .int i, .int j, Q => Q (.int (Builtin.bitXor i j))
  | _, _, _ => False
def negD : D → (D → Prop) → Prop
  | .int i, Q => Q (.int (-i))
  | _, _ => False
theorem o_add : OpR X (binaryOp .Add) (LO2 B X.kn addD) := opR_by fun v u H Q ⟨F, x, y, Qd, e, dk, r1, r2, q, k⟩ => by
  unfold addD at q
  split at q
  · exact ⟨_, op_add, _, _, r1.int, r2.int, k.here e dk q (.int _)⟩
  · exact ⟨_, op_add_str, _, _, r1.str, r2.str, q.1, k.here e dk q.2 (.str _)⟩
  · obtain ⟨a, vs, rfl, f1, h1, s1⟩ := r1.tup e
    obtain ⟨b, us, rfl, f2, h2, s2⟩ := r2.tup e
    refine ⟨_, op_catA, a, b, vs, us, rfl, rfl, h1, h2, by rw [s1.length, s2.length]; exact q.1, ?_⟩
    have z := s1.append s2
    refine ⟨fun w => ?_, fun w1 w => ?_, fun w1 w2 p hp => ?_⟩
    · subst w
      cases s1
      exact k.here e dk q.2 (.tup f2 (by simpa using s2))
    · subst w
      cases s2
      exact k.here e dk q.2 (.tup f1 (by simpa using s1))
    · exact k.frz e dk q.2 hp (.tup (SqT.of upd_same) (z.mono (same_new (e.free hp))))
  · obtain ⟨a, vs, rfl, h1, s1⟩ := r1.lst e
    obtain ⟨b, us, rfl, h2, s2⟩ := r2.lst e
    exact ⟨_, op_cat, a, b, vs, us, rfl, rfl, h1, h2, by rw [s1.length, s2.length]; exact q.1, fun p hp => k.frz e dk q.2 hp (.lst upd_same ((s1.append s2).mono (same_new (e.free hp))))⟩
  · exact q.elim
end
end ND

/-! ND3: operators, comparisons, truth, displays, items, slices -/
namespace ND
open PySem PySem.Spec L2
section
variable {B : Bs} {X : Cx} {e a b c : Expr} {es : List Expr} {f fa fb fc : GE} {pos : Pos}
theorem o_sub : OpR X (binaryOp .Sub) (LO2 B X.kn subD) := opR_by fun v u H Q ⟨F, x, y, Qd, e, dk, r1, r2, q, k⟩ => by
  unfold subD at q
  split at q
  · exact ⟨_, op_sub, _, _, r1.int, r2.int, k.here e dk q (.int _)⟩
  · exact q.elim
theorem Reps.rep {K : Kn} {F : Hp} {vs : List V} {ds : List D} (h : Reps K F vs ds) : ∀ n : Nat, Reps K F (List.replicate n vs).flatten (List.replicate n ds).flatten
  | 0 => .nil
  | n + 1 => by
    rw [List.replicate_succ, List.replicate_succ, List.flatten_cons, List.flatten_cons]
    exact h.append (Reps.rep h n)
theorem o_mul : OpR X (binaryOp .Mult) (LO2 B X.kn mulD) := opR_by fun v u H Q ⟨F, x, y, Qd, e, dk, r1, r2, q, k⟩ => by
  unfold mulD at q
  split at q
  · exact ⟨_, op_mulW, _, _, r1.int, r2.int, q.1, k.here e dk q.2 (.int _)⟩
  · obtain ⟨a, vs, rfl, h1, s1⟩ := r1.lst e
    obtain ⟨q0, q1, q2, q3⟩ := q
    have := s1.length
    exact ⟨_, op_rep, a, _, vs, rfl, r2.int, h1, by omega, q1, by rw [this]; exact q2, fun p hp => k.frz e dk q3 hp (.lst upd_same ((s1.rep _).mono (same_new (e.free hp))))⟩
  · exact q.elim
theorem o_fdiv : OpR X (binaryOp .FloorDiv) (LO2 B X.kn fdivD) := opR_by fun v u H Q ⟨F, x, y, Qd, e, dk, r1, r2, q, k⟩ => by
  unfold fdivD at q
  split at q
  · exact ⟨_, op_fdivW, _, _, r1.int, r2.int, ⟨q.1, q.2.1⟩, k.here e dk q.2.2 (.int _)⟩
  · exact q.elim
theorem o_mod : OpR X (binaryOp .Mod) (LO2 B X.kn modD) := opR_by fun v u H Q ⟨F, x, y, Qd, e, dk, r1, r2, q, k⟩ => by
  unfold modD at q
  split at q
  · exact ⟨_, op_mod, _, _, r1.int, r2.int, q.1, k.here e dk q.2 (.int _)⟩
  · exact q.elim
theorem o_pow : OpR X (binaryOp .Pow) (LO2 B X.kn powD) := opR_by fun v u H Q ⟨F, x, y, Qd, e, dk, r1, r2, q, k⟩ => by
  unfold powD at q
  split at q
  · exact ⟨_, op_pow, _, _, r1.int, r2.int, ⟨q.1, q.2.1, q.2.2.1⟩, k.here e dk q.2.2.2 (.int _)⟩
  · exact q.elim
theorem o_shl : OpR X (binaryOp .LShift) (LO2 B X.kn shlD) := opR_by fun v u H Q ⟨F, x, y, Qd, e, dk, r1, r2, q, k⟩ => by
  unfold shlD at q
  split at q
  · exact ⟨_, op_shl, _, _, r1.int, r2.int, ⟨q.1, q.2.1, q.2.2.1⟩, k.here e dk q.2.2.2 (.int _)⟩
  · exact q.elim
theorem o_and : OpR X (binaryOp .BitAnd) (LO2 B X.kn andD) := opR_by fun v u H Q ⟨F, x, y, Qd, e, dk, r1, r2, q, k⟩ => by
  unfold andD at q
  split at q
  · exact ⟨_, op_and, _, _, r1.int, r2.int, k.here e dk q (.int _)⟩
  · exact q.elim
theorem o_xor : OpR X (binaryOp .BitXor) (LO2 B X.kn xorD) := opR_by fun v u H Q ⟨F, x, y, Qd, e, dk, r1, r2, q, k⟩ => by
  unfold xorD at q
  split at q
  · exact ⟨_, op_xor, _, _, r1.int, r2.int, k.here e dk q (.int _)⟩
  · exact q.elim
theorem o_neg : UnR X (unaryOp .USub) (LO1 B X.kn negD) := unR_by fun v H Q ⟨F, x, Qd, e, dk, r1, q, k⟩ => by
  unfold negD at q
  split at q
  · exact ⟨_, un_neg, _, r1.int, k.here e dk q (.int _)⟩
  · exact q.elim

/-! ### plain data and their equality -/
mutual
def toPy : D → PyData
  | .non => .none
  | .bl b => .bool b
  | .int i => .int i
  | .str x => .str x
  | .tup xs => .tuple (toPys xs)
  | .lst xs => .list (toPys xs)
  | .dic _ => .none
  | .obj _ _ => .none
  | .opq _ => .none
def toPys : List D → List PyData
  | [] => []
  | x :: xs => toPy x :: toPys xs
end
/-! plain data: no dict, no object within, at most n deep -/
mutual
def pl : Nat → D → Bool
  | _, .non => true
  | _, .bl _ => true
  | _, .int _ => true
  | _, .str x => PyData.strOk x
  | 0, .tup _ => false
  | 0, .lst _ => false
  | n + 1, .tup xs => pls n xs
  | n + 1, .lst xs => pls n xs
  | _, .dic _ => false
  | _, .obj _ _ => false
  | _, .opq _ => false
def pls : Nat → List D → Bool
  | _, [] => true
  | n, x :: xs => pl n x && pls n xs
end
theorem toPys_map : ∀ xs : List D, toPys xs = xs.map toPy
  | [] => by simp [toPys]
  | x :: xs => by simp [toPys, toPys_map xs]
theorem pls_all (n : Nat) : ∀ xs : List D, pls n xs = xs.all (pl n)
  | [] => by simp [pls]
  | x :: xs => by simp [pls, pls_all n xs]
mutual
theorem pl_shape : ∀ (n : Nat) (d : D), pl n d = true → (toPy d).canLay0 = true ∧ (toPy d).depth ≤ n
  | n, .non, _ => by simp [toPy, PyData.canLay0, PyData.depth]
  | n, .bl b, _ => by simp [toPy, PyData.canLay0, PyData.depth]
  | n, .int b, _ => by simp [toPy, PyData.canLay0, PyData.depth]
  | n, .str x, h => by
    simp only [pl] at h
    simp [toPy, PyData.canLay0, PyData.depth, h]
  | 0, .tup xs, h => by simp [pl] at h
  | 0, .lst xs, h => by simp [pl] at h
  | n + 1, .tup xs, h => by
    simp only [pl] at h
    obtain ⟨h1, h2⟩ := pls_shape n xs h
    simp only [toPy, PyData.canLay0, PyData.depth]
    exact ⟨h1, by omega⟩
  | n + 1, .lst xs, h => by
    simp only [pl] at h
    obtain ⟨h1, h2⟩ := pls_shape n xs h
    simp only [toPy, PyData.canLay0, PyData.depth]
    exact ⟨h1, by omega⟩
  | n, .dic _, h => by simp [pl] at h
  | n, .obj _ _, h => by simp [pl] at h
  | n, .opq _, h => by simp [pl] at h
theorem pls_shape : ∀ (n : Nat) (d : List D), pls n d = true → PyData.canLayAll0 (toPys d) = true ∧ PyData.depthAll (toPys d) ≤ n
  | n, [], _ => by simp [toPys, PyData.canLayAll0, PyData.depthAll]
  | n, x :: xs, h => by
    simp only [pls, Bool.and_eq_true] at h
    obtain ⟨h1, h2⟩ := pl_shape n x h.1
    obtain ⟨h3, h4⟩ := pls_shape n xs h.2
    simp only [toPys, PyData.canLayAll0, PyData.depthAll, Bool.and_eq_true]
    exact ⟨⟨h1, h3⟩, by omega⟩
end
theorem pl_shaped {d : D} (h : pl 64 d = true) : SeqAt.shaped (toPy d) = true := by
  obtain ⟨h1, h2⟩ := pl_shape 64 d h
  show ((toPy d).canLay0 && decide ((toPy d).depth ≤ 64)) = true
  rw [h1, decide_eq_true h2]
  rfl
mutual
theorem Rep.dp {K : Kn} {F H : Hp} (e : Same F H) : ∀ (n : Nat) (d : D) (v : V), pl n d = true → Rep K F v d → Dp K.K H v (toPy d)
  | _, .non, _, _, h => by cases h; simp only [toPy]; exact .non
  | _, .bl _, _, _, h => by cases h; simp only [toPy]; exact .bl _
  | _, .int _, _, _, h => by cases h; simp only [toPy]; exact .int _
  | _, .str _, _, _, h => by cases h; simp only [toPy]; exact .str _
  | 0, .tup _, _, p, h => by simp [pl] at p
  | 0, .lst _, _, p, h => by simp [pl] at p
  | n + 1, .tup xs, _, p, h => by
    simp only [pl] at p
    cases h with
    | tup h r =>
      simp only [toPy]
      exact .tup (same_t e h) (Reps.dp e n xs _ p r)
  | n + 1, .lst xs, _, p, h => by
    simp only [pl] at p
    cases h with
    | lst h r =>
      simp only [toPy]
      exact .lst (SqL.of (e _ _ h)) (Reps.dp e n xs _ p r)
  | _, .dic _, _, p, _ => by simp [pl] at p
  | _, .obj _ _, _, p, _ => by simp [pl] at p
  | _, .opq _, _, p, _ => by simp [pl] at p
theorem Reps.dp {K : Kn} {F H : Hp} (e : Same F H) : ∀ (n : Nat) (d : List D) (v : List V), pls n d = true → Reps K F v d → DpAll K.K H v (toPys d)
  | _, [], _, _, h => by cases h; simp only [toPys]; exact .nil
  | n, x :: xs, _, p, h => by
    simp only [pls, Bool.and_eq_true] at p
    cases h with
    | cons h1 h2 =>
      simp only [toPys]
      exact .cons (Rep.dp e n x _ p.1 h1) (Reps.dp e n xs _ p.2 h2)
end
theorem RepB.dp {W : WD} {K : Kn} {F H : Hp} {v : V} {d : D} (h : RepB W K F H v d) (e : Same F H) (p : pl 64 d = true) : Dp K.K H v (toPy d) := by
  rcases h with h | ⟨a, ds, vs, rfl, rfl, _, h, r⟩ | ⟨a, ds, vs, rfl, rfl, _, h, r⟩
  · exact h.dp e 64 d v p
  · simp only [pl] at p
    simp only [toPy]
    exact .lst (SqL.of h) (Reps.dp e 63 ds _ p r)
  · simp [pl] at p
/-- Python's == on plain data -/
def eqb (x y : D) : Bool := PyData.eqv (toPy x) (toPy y)
def eqD : D → D → (D → Prop) → Prop
  | .str a, .str b, Q => Q (.bl (decide (a = b)))
  | x, y, Q => pl 64 x = true ∧ pl 64 y = true ∧ Q (.bl (eqb x y))
def neD : D → D → (D → Prop) → Prop
  | .str a, .str b, Q => Q (.bl (!decide (a = b)))
  | x, y, Q => pl 64 x = true ∧ pl 64 y = true ∧ Q (.bl (!eqb x y))
theorem vstr {a b : Str} : decide (V.str a = V.str b) = decide (a = b) := by
  by_cases h : a = b
  · subst h; simp
  · rw [decide_eq_false h, decide_eq_false fun z => h (V.str.inj z)]
theorem o_eq (hu : X.A.units + 64 < cLine) : OpR X (compareOp .Eq) (LO2 B X.kn eqD) := opR_by fun v u H Q ⟨F, x, y, Qd, e, dk, r1, r2, q, k⟩ => by
  unfold eqD at q
  split at q
  · refine ⟨_, op_eq, ?_, ?_⟩
    · rw [r1.str, r2.str]; rfl
    · rw [r1.str, r2.str, vstr]; exact k.here e dk q (.bl _)
  · exact ⟨_, op_eqD hu, _, _, r1.dp e q.1, r2.dp e q.2.1, pl_shaped q.1, pl_shaped q.2.1, k.here e dk q.2.2 (.bl _)⟩
theorem o_ne (hu : X.A.units + 64 < cLine) : OpR X (compareOp .NotEq) (LO2 B X.kn neD) := opR_by fun v u H Q ⟨F, x, y, Qd, e, dk, r1, r2, q, k⟩ => by
  unfold neD at q
  split at q
  · refine ⟨_, op_ne, ?_, ?_⟩
    · rw [r1.str, r2.str]; rfl
    · rw [r1.str, r2.str, vstr]; exact k.here e dk q (.bl _)
  · exact ⟨_, op_neD hu, _, _, r1.dp e q.1, r2.dp e q.2.1, pl_shaped q.1, pl_shaped q.2.1, k.here e dk q.2.2 (.bl _)⟩
/-- in: plain data in a tuple or a list of such; a sign in a text -/
def inb (x : D) (ys : List D) : Bool := ys.any fun z => eqb z x
def inD (neg : Bool) : D → D → (D → Prop) → Prop
  | x, .tup ys, Q => pl 64 x = true ∧ pl 64 (.tup ys) = true ∧ Q (.bl (if neg then !inb x ys else inb x ys))
  | x, .lst ys, Q => pl 64 x = true ∧ pl 64 (.lst ys) = true ∧ Q (.bl (if neg then !inb x ys else inb x ys))
  | .str x, .str y, Q => ∃ c, x = ⟨#[c]⟩ ∧ Q (.bl (if neg then !decide (c ∈ y.cps.toList) else decide (c ∈ y.cps.toList)))
  | _, _, _ => False
theorem any_toPy (x : D) : ∀ ys : List D, ((toPys ys).any fun z => PyData.eqv z (toPy x)) = inb x ys
  | [] => by simp [toPys, inb]
  | y :: ys => by
    have := any_toPy x ys
    simp only [toPys, List.any_cons, this, inb, eqb]
def rInT (K : PySem.W.Frag) (neg : Bool) : R2 := fun x y H Q => ∃ d ds, Dp K H x d ∧ Dp K H y (.tuple ds) ∧ SeqAt.shaped d = true ∧ SeqAt.shaped (.tuple ds) = true ∧ Q (.bl (if neg then !(ds.any fun z => PyData.eqv z d) else ds.any fun z => PyData.eqv z d)) H
theorem op_inTup (hu : X.A.units + 65 < cLine) : OpR X (compareOp .In) (rInT X.K false) := fun _ _ _ H one all v u _ I isOne isAll ⟨d, ds, dOne, dAll, okOne, okAll, q⟩ => by
  obtain ⟨⟨_, readsOne⟩, _, readsAll⟩ := And.intro (Dp.reads I d one v dOne isOne) (Dp.reads I (.tuple ds) all u dAll isAll)
  exact SeqAt.in_tuple_reads readsAll readsOne (SeqAt.canLay_of_shaped okAll) (SeqAt.canLay_of_shaped okOne) (PyProof.Rows.room_in_shaped okOne hu) ⟨.bl _, H, I, rfl, q⟩
theorem op_notInTup (hu : X.A.units + 65 < cLine) : OpR X (compareOp .NotIn) (rInT X.K true) := fun _ _ _ H one all v u _ I isOne isAll ⟨d, ds, dOne, dAll, okOne, okAll, q⟩ => by
  obtain ⟨⟨_, readsOne⟩, _, readsAll⟩ := And.intro (Dp.reads I d one v dOne isOne) (Dp.reads I (.tuple ds) all u dAll isAll)
  exact SeqAt.notIn_tuple_reads readsAll readsOne (SeqAt.canLay_of_shaped okAll) (SeqAt.canLay_of_shaped okOne) (PyProof.Rows.room_in_shaped okOne hu) ⟨.bl _, H, I, rfl, q⟩
theorem o_in (hu : X.A.units + 65 < cLine) : OpR X (compareOp .In) (LO2 B X.kn (inD false)) := opR_by fun v u H Q ⟨F, x, y, Qd, e, dk, r1, r2, q, k⟩ => by
  unfold inD at q
  split at q
  · have d2 := r2.dp e q.2.1
    have s2 := pl_shaped q.2.1
    simp only [toPy] at d2 s2
    exact ⟨_, op_inTup hu, _, _, r1.dp e q.1, d2, pl_shaped q.1, s2, by rw [any_toPy]; exact k.here e dk q.2.2 (.bl _)⟩
  · have d2 := r2.dp e q.2.1
    have s2 := pl_shaped q.2.1
    simp only [toPy] at d2 s2
    exact ⟨_, op_inD hu, _, _, r1.dp e q.1, d2, pl_shaped q.1, s2, by rw [any_toPy]; exact k.here e dk q.2.2 (.bl _)⟩
  · obtain ⟨c, rfl, q⟩ := q
    exact ⟨_, op_in_sign, c, _, r1.str, r2.str, k.here e dk q (.bl _)⟩
  · exact q.elim
theorem o_notIn (hu : X.A.units + 65 < cLine) : OpR X (compareOp .NotIn) (LO2 B X.kn (inD true)) := opR_by fun v u H Q ⟨F, x, y, Qd, e, dk, r1, r2, q, k⟩ => by
  unfold inD at q
  split at q
  · have d2 := r2.dp e q.2.1
    have s2 := pl_shaped q.2.1
    simp only [toPy] at d2 s2
    exact ⟨_, op_notInTup hu, _, _, r1.dp e q.1, d2, pl_shaped q.1, s2, by rw [any_toPy]; exact k.here e dk q.2.2 (.bl _)⟩
  · have d2 := r2.dp e q.2.1
    have s2 := pl_shaped q.2.1
    simp only [toPy] at d2 s2
    exact ⟨_, op_notInD hu, _, _, r1.dp e q.1, d2, pl_shaped q.1, s2, by rw [any_toPy]; exact k.here e dk q.2.2 (.bl _)⟩
  · obtain ⟨c, rfl, q⟩ := q
    exact ⟨_, op_notIn_sign, c, _, r1.str, r2.str, k.here e dk q (.bl _)⟩
  · exact q.elim

/-- is: with None, two bools -/
def isD (neg : Bool) : D → D → (D → Prop) → Prop
  | .opq _, _, _ => False
  | .non, .non, Q => Q (.bl (!neg))
  | .bl a, .bl b, Q => Q (.bl (if neg then !decide (a = b) else decide (a = b)))
  | _, .non, Q => Q (.bl neg)
  | _, _, _ => False
theorem rep_ne_non {K : Kn} {W : WD} {F H : Hp} {v : V} {d : D} (h : RepB W K F H v d) (n : d ≠ .non) (n2 : ∀ u, d ≠ .opq u) : decide (v = V.non) = false := by
  refine decide_eq_false fun z => ?_
  subst z
  rcases h with h | ⟨a, ds, vs, e, _⟩ | ⟨a, ds, vs, e, _⟩
  · cases h with
    | non => exact n rfl
    | opq => exact n2 _ rfl
  · cases e
  · cases e
theorem o_is : OpR X (compareOp .Is) (LO2 B X.kn (isD false)) := opR_by fun v u H Q ⟨F, x, y, Qd, e, dk, r1, r2, q, k⟩ => by
  unfold isD at q
  split at q
  · exact q.elim
  · exact ⟨_, op_isN, r2.non, by rw [r1.non]; exact k.here e dk q (.bl _)⟩
  · exact ⟨_, op_isBl, _, _, r1.bl, r2.bl, k.here e dk q (.bl _)⟩
  · exact ⟨_, op_isN, r2.non, by rw [rep_ne_non r1 (by assumption) (by assumption)]; exact k.here e dk q (.bl _)⟩
  · exact q.elim
theorem o_isNot : OpR X (compareOp .IsNot) (LO2 B X.kn (isD true)) := opR_by fun v u H Q ⟨F, x, y, Qd, e, dk, r1, r2, q, k⟩ => by
  unfold isD at q
  split at q
  · exact q.elim
  · exact ⟨_, op_notN, r2.non, by rw [r1.non]; exact k.here e dk q (.bl _)⟩
  · exact ⟨_, op_notBl, _, _, r1.bl, r2.bl, k.here e dk q (.bl _)⟩
  · exact ⟨_, op_notN, r2.non, by rw [rep_ne_non r1 (by assumption) (by assumption)]; exact k.here e dk q (.bl _)⟩
  · exact q.elim
def ltD : D → D → (D → Prop) → Prop
  | .int i, .int j, Q => Q (.bl (decide (i < j)))
  | .str i, .str j, Q => Q (.bl (decide (i.cps.toList < j.cps.toList)))
  | _, _, _ => False
def leD : D → D → (D → Prop) → Prop
  | .int i, .int j, Q => Q (.bl (decide (i ≤ j)))
  | .str i, .str j, Q => Q (.bl (!decide (j.cps.toList < i.cps.toList)))
  | _, _, _ => False
def gtD : D → D → (D → Prop) → Prop
  | .int i, .int j, Q => Q (.bl (decide (j < i)))
  | .str i, .str j, Q => Q (.bl (decide (j.cps.toList < i.cps.toList)))
  | _, _, _ => False
def geD : D → D → (D → Prop) → Prop
  | .int i, .int j, Q => Q (.bl (decide (j ≤ i)))
  | .str i, .str j, Q => Q (.bl (!decide (i.cps.toList < j.cps.toList)))
  | _, _, _ => False
theorem o_lt : OpR X (compareOp .Lt) (LO2 B X.kn ltD) := opR_by fun v u H Q ⟨F, x, y, Qd, e, dk, r1, r2, q, k⟩ => by
  unfold ltD at q
  split at q
  · exact ⟨_, op_lt, _, _, r1.int, r2.int, k.here e dk q (.bl _)⟩
  · exact ⟨_, op_lt_str, _, _, r1.str, r2.str, k.here e dk q (.bl _)⟩
  · exact q.elim
theorem o_le : OpR X (compareOp .LtE) (LO2 B X.kn leD) := opR_by fun v u H Q ⟨F, x, y, Qd, e, dk, r1, r2, q, k⟩ => by
  unfold leD at q
  split at q
  · exact ⟨_, op_le, _, _, r1.int, r2.int, k.here e dk q (.bl _)⟩
  · exact ⟨_, op_le_str, _, _, r1.str, r2.str, k.here e dk q (.bl _)⟩
  · exact q.elim
theorem o_gt : OpR X (compareOp .Gt) (LO2 B X.kn gtD) := opR_by fun v u H Q ⟨F, x, y, Qd, e, dk, r1, r2, q, k⟩ => by
  unfold gtD at q
  split at q
  · exact ⟨_, op_gt, _, _, r1.int, r2.int, k.here e dk q (.bl _)⟩
  · exact ⟨_, op_gt_str, _, _, r1.str, r2.str, k.here e dk q (.bl _)⟩
  · exact q.elim
theorem o_ge : OpR X (compareOp .GtE) (LO2 B X.kn geD) := opR_by fun v u H Q ⟨F, x, y, Qd, e, dk, r1, r2, q, k⟩ => by
  unfold geD at q
  split at q
  · exact ⟨_, op_ge, _, _, r1.int, r2.int, k.here e dk q (.bl _)⟩
  · exact ⟨_, op_ge_str, _, _, r1.str, r2.str, k.here e dk q (.bl _)⟩
  · exact q.elim

/-! ### comparisons as values and tests; truth; and, or, not -/
variable {g g' : D → D → (D → Prop) → Prop} {ft fu : GT} {rest : List Expr}
theorem ed_cmp {op : CmpOp} (ho : OpR X (compareOp op) (LO2 B X.kn g)) (ha : BD B X a fa) (hb : BD B X b fb) (hm : behindInMarks op b = false) : ED B X (.Compare a [op] [b] pos) (gBin g fa fb) :=
  ⟨pe_imp (pe_cmpR ho ha.run hb.run hm) fun s H Q ⟨σ, F, Qd, R, q, k⟩ => lo2_of R q k⟩
/-- a value that has to be a bool, as a test -/
def isBl (d : D) (Q : Bool → Prop) : Prop := ∃ b, d = .bl b ∧ Q b
@[simp] theorem isBl_b (b : Bool) (Q : Bool → Prop) : isBl (.bl b) Q ↔ Q b := ⟨fun ⟨_, e, q⟩ => by cases e; exact q, fun q => ⟨b, rfl, q⟩⟩
@[simp] def gB (f : GE) (σ : List SV) (Q : Bool → Prop) : Prop := f σ fun d => isBl d Q
theorem fin_b {K : Kn} {F H : Hp} {Qd : Bool → Prop} {Q : Bool → Hp → Prop} (k : FinT B F H Qd Q) : Fin B K F H (fun d => ∃ b, d = .bl b ∧ Qd b) fun x H' => ∃ b, x = .bl b ∧ Q b H' := fun d ⟨b, e, q⟩ F' H' v g dk r => by
  subst e
  cases r
  exact ⟨b, rfl, k b q F' H' g dk⟩
theorem td_cmp {op : CmpOp} (ho : OpR X (compareOp op) (LO2 B X.kn g)) (ha : BD B X a fa) (hb : BD B X b fb) (hm : behindInMarks op b = false) : TD B X (.Compare a [op] [b] pos) (gB (gBin g fa fb)) :=
  ⟨pt_imp (pt_cmpR ho ha.run hb.run hm) fun s H Q ⟨σ, F, Qd, R, q, k⟩ => lo2_of R q (fin_b k)⟩
@[simp] def gChain (g g' : D → D → (D → Prop) → Prop) (fa fb fc : GE) (σ : List SV) (Q : D → Prop) : Prop := fa σ fun x => fb σ fun y => g x y fun r => isBl r fun b => if b = true then fc σ fun z => g' y z Q else Q (.bl false)
theorem lo_chain {K : Kn} {s : L2.St} {σ : List SV} {F H : Hp} {Qd : D → Prop} {Q : VK} (R : Rel B K σ s F H) (q : gChain g g' fa fb fc σ Qd) (k : Fin B K F H Qd Q) : tChain (LO2 B K g) (LO2 B K g') (LB B K fa) (LB B K fb) (LB B K fc) s H Q := by
  refine lb_two (R2 := fun x y H2 => LO2 B K g x y H2 fun z H3 => ∃ k, z = .bl k ∧ (if k = true then LB B K fc s H3 fun w' H4 => LO2 B K g' y w' H4 Q else Q (.bl false) H3)) R q fun x y F1 H1 v u qq g1 dk r1 r2 => ?_
  refine ⟨F1, x, y, _, g1.fh, dk, r1, r2, qq, fun d ⟨b, e, q3⟩ F2 H2 w g2 dk2 r3 => ?_⟩
  subst e
  cases r3
  refine ⟨b, rfl, ?_⟩
  cases b with
  | false => exact k _ q3 F2 H2 _ (g1.trans g2) dk2 (.bl false)
  | true => exact ⟨σ, F2, _, R.grow (g1.trans g2) dk2, q3, fun z qz F3 H3 w3 g3 dk3 r4 => ⟨F3, y, z, Qd, g3.fh, dk3, r2.grow (g2.trans g3), r4, qz, k.more ((g1.trans g2).trans g3)⟩⟩
theorem ed_chain {op op' : CmpOp} (ho : OpR X (compareOp op) (LO2 B X.kn g)) (ho' : OpR X (compareOp op') (LO2 B X.kn g')) (ha : BD B X a fa) (hb : BD B X b fb) (hc : BD B X c fc)
    (hm : lastMarks [op, op'] [b, c] = false := by with_unfolding_all rfl) : ED B X (.Compare a [op, op'] [b, c] pos) (gChain g g' fa fb fc) :=
  ⟨pe_imp (pe_chain ho ho' ha.run hb.run hc.run hm) fun s H Q ⟨σ, F, Qd, R, q, k⟩ => lo_chain R q k⟩
theorem td_chain {op op' : CmpOp} (ho : OpR X (compareOp op) (LO2 B X.kn g)) (ho' : OpR X (compareOp op') (LO2 B X.kn g')) (ha : BD B X a fa) (hb : BD B X b fb) (hc : BD B X c fc)
    (hm : lastMarks [op, op'] [b, c] = false := by with_unfolding_all rfl) : TD B X (.Compare a [op, op'] [b, c] pos) (gB (gChain g g' fa fb fc)) :=
  ⟨pt_imp (pt_chain ho ho' ha.run hb.run hc.run hm) fun s H Q ⟨σ, F, Qd, R, q, k⟩ => lo_chain R q (fin_b k)⟩
/-- the truth of data -/
def truthD : D → (Bool → Prop) → Prop
  | .non, Q => Q false
  | .bl b, Q => Q b
  | .int i, Q => Q (i != 0)
  | .str x, Q => x.length ≤ sizeLine ∧ Q ((x.length : Int) != 0)
  | .tup xs, Q => Q (!xs.isEmpty)
  | .lst xs, Q => Q (!xs.isEmpty)
  | .dic kvs, Q => Q (!kvs.isEmpty)
  | _, _ => False
theorem Reps.isEmpty {K : Kn} {F : Hp} {vs : List V} {ds : List D} (h : Reps K F vs ds) : vs.isEmpty = ds.isEmpty := by cases h <;> rfl
theorem RepKs.isEmpty {K : Kn} {F : Hp} {vs : List (Key × V)} {ds : List (Key × D)} (h : RepKs K F vs ds) : vs.isEmpty = ds.isEmpty := by cases h <;> rfl
theorem truth_of {K : Kn} {W : WD} {F H : Hp} {v : V} {d : D} {Qd : Bool → Prop} (r : RepB W K F H v d) (e : Same F H) (q : truthD d Qd) : ∃ b, TruV K.K v H b ∧ Qd b := by
  unfold truthD at q
  split at q
  · rw [r.non]; exact ⟨_, rfl, q⟩
  · rw [r.bl]; exact ⟨_, rfl, q⟩
  · rw [r.int]; exact ⟨_, rfl, q⟩
  · rw [r.str]; exact ⟨_, ⟨q.1, rfl⟩, q.2⟩
  · obtain ⟨a, vs, rfl, _, h, s⟩ := r.tup e
    exact ⟨_, .inr (.inl ⟨vs, h, by rw [s.isEmpty]⟩), q⟩
  · obtain ⟨a, vs, rfl, h, s⟩ := r.lst e
    exact ⟨_, .inl ⟨vs, SqL.of h, by rw [s.isEmpty]⟩, q⟩
  · obtain ⟨a, vs, rfl, h, s⟩ := r.dic e
    exact ⟨_, .inr (.inr ⟨vs, h, by rw [s.isEmpty]⟩), q⟩
  · exact q.elim
@[simp] def gTru (f : GE) (σ : List SV) (Q : Bool → Prop) : Prop := f σ fun d => truthD d Q
theorem td_val (ha : BD B X a fa) (he : ∀ whole, isTrue a X.env whole = (do let v ← whole; standAt a.pos; holding [v] (truthy v)) := by intro _; rfl) : TD B X a (gTru fa) :=
  ⟨pt_imp (pt_truth ha.run he) fun s H Q ⟨σ, F, Qd, R, q, k⟩ => ⟨σ, F, _, R, q, fun d qd F' H' v g dk r => by
    obtain ⟨b, h1, h2⟩ := truth_of r g.fh qd
    exact ⟨b, h1, k b h2 F' H' g dk⟩⟩⟩
@[simp] def gNotT (ft : GT) (σ : List SV) (Q : Bool → Prop) : Prop := ft σ fun b => Q (!b)
theorem td_not (ha : TD B X a ft) : TD B X (.UnaryOp .Not a pos) (gNotT ft) := ⟨pt_imp (pt_not ha.run) fun s H Q ⟨σ, F, Qd, R, q, k⟩ => ⟨σ, F, _, R, q, fun b qb F' H' g dk => k _ qb F' H' g dk⟩⟩
@[simp] def gAndT (ft fu : GT) (σ : List SV) (Q : Bool → Prop) : Prop := ft σ fun b => if b = true then fu σ Q else Q false
@[simp] def gOrT (ft fu : GT) (σ : List SV) (Q : Bool → Prop) : Prop := ft σ fun b => if b = true then Q true else fu σ Q
theorem wd_and1 (ha : TD B X a ft) : WDd B X (.BoolOp .And [a] pos) ft := ⟨pw_and1 ha.run⟩
theorem wd_or1 (ha : TD B X a ft) : WDd B X (.BoolOp .Or [a] pos) ft := ⟨pw_or1 ha.run⟩
theorem wd_and (ha : TD B X a ft) (hb : WDd B X (.BoolOp .And (b :: rest) pos) fu) : WDd B X (.BoolOp .And (a :: b :: rest) pos) (gAndT ft fu) :=
  ⟨pw_imp (pw_and ha.run hb.run) fun s H Q ⟨σ, F, Qd, R, q, k⟩ => ⟨σ, F, _, R, q, fun c qc F' H' g dk => by
    cases c with
    | true => exact ⟨σ, F', Qd, R.grow g dk, qc, k.more g⟩
    | false => exact k _ qc F' H' g dk⟩⟩
theorem wd_or (ha : TD B X a ft) (hb : WDd B X (.BoolOp .Or (b :: rest) pos) fu) : WDd B X (.BoolOp .Or (a :: b :: rest) pos) (gOrT ft fu) :=
  ⟨pw_imp (pw_or ha.run hb.run) fun s H Q ⟨σ, F, Qd, R, q, k⟩ => ⟨σ, F, _, R, q, fun c qc F' H' g dk => by
    cases c with
    | false => exact ⟨σ, F', Qd, R.grow g dk, qc, k.more g⟩
    | true => exact k _ qc F' H' g dk⟩⟩
theorem WDd.t (h : WDd B X e ft) : TD B X e ft := ⟨h.run.pt⟩
/-- as values -/
@[simp] def gAnd (fa fb : GE) (σ : List SV) (Q : D → Prop) : Prop := fa σ fun x => truthD x fun b => if b = true then fb σ Q else Q x
@[simp] def gOr (fa fb : GE) (σ : List SV) (Q : D → Prop) : Prop := fa σ fun x => truthD x fun b => if b = true then Q x else fb σ Q
@[simp] def gNot (fa : GE) (σ : List SV) (Q : D → Prop) : Prop := fa σ fun x => truthD x fun b => Q (.bl (!b))
theorem ed_one {op : BoolOp} (h : ED B X a fa) : ED B X (.BoolOp op [a] pos) fa := ⟨pe_one h.run⟩
theorem ed_and (ha : ED B X a fa) (hb : ED B X (.BoolOp .And (b :: rest) pos) fb) : ED B X (.BoolOp .And (a :: b :: rest) pos) (gAnd fa fb) :=
  ⟨pe_imp (pe_andT ha.run hb.run) fun s H Q ⟨σ, F, Qd, R, q, k⟩ => ⟨σ, F, _, R, q, fun d qd F' H' v g dk r => by
    obtain ⟨c, h1, h2⟩ := truth_of (W := B.W) (.inl r) g.fh qd
    refine ⟨c, h1, ?_⟩
    cases c with
    | true => exact ⟨σ, F', Qd, R.grow g dk, h2, k.more g⟩
    | false => exact k _ h2 F' H' v g dk r⟩⟩
theorem ed_or (ha : ED B X a fa) (hb : ED B X (.BoolOp .Or (b :: rest) pos) fb) : ED B X (.BoolOp .Or (a :: b :: rest) pos) (gOr fa fb) :=
  ⟨pe_imp (pe_orT ha.run hb.run) fun s H Q ⟨σ, F, Qd, R, q, k⟩ => ⟨σ, F, _, R, q, fun d qd F' H' v g dk r => by
    obtain ⟨c, h1, h2⟩ := truth_of (W := B.W) (.inl r) g.fh qd
    refine ⟨c, h1, ?_⟩
    cases c with
    | false => exact ⟨σ, F', Qd, R.grow g dk, h2, k.more g⟩
    | true => exact k _ h2 F' H' v g dk r⟩⟩
theorem ed_not (ha : BD B X a fa) : ED B X (.UnaryOp .Not a pos) (gNot fa) :=
  ⟨pe_imp (pe_notT ha.run) fun s H Q ⟨σ, F, Qd, R, q, k⟩ => ⟨σ, F, _, R, q, fun d qd F' H' v g dk r => by
    obtain ⟨c, h1, h2⟩ := truth_of r g.fh qd
    exact ⟨c, h1, k _ h2 F' H' _ g dk (.bl _)⟩⟩⟩
@[simp] def gIf (ft : GT) (fa fb : GE) (σ : List SV) (Q : D → Prop) : Prop := ft σ fun b => if b = true then fa σ Q else fb σ Q
theorem ed_if (hc : TD B X c ft) (ha : ED B X a fa) (hb : ED B X b fb) : ED B X (.IfExp c a b pos) (gIf ft fa fb) :=
  ⟨pe_imp (pe_ifExp hc.run ha.run hb.run) fun s H Q ⟨σ, F, Qd, R, q, k⟩ => ⟨σ, F, _, R, q, fun d qd F' H' g dk => by
    cases d with
    | true => exact ⟨σ, F', Qd, R.grow g dk, qd, k.more g⟩
    | false => exact ⟨σ, F', Qd, R.grow g dk, qd, k.more g⟩⟩⟩
/-- borrowed either way -/
theorem bd_if (hc : TD B X c ft) (ha : BD B X a fa) (hb : BD B X b fb) : BD B X (.IfExp c a b pos) (gIf ft fa fb) :=
  ⟨pe_imp (pe_ifExp hc.run ha.run hb.run) fun s H Q ⟨σ, F, Qd, R, q, k⟩ => ⟨σ, F, _, R, q, fun d qd F' H' g dk => by
    cases d with
    | true => exact ⟨σ, F', Qd, R.grow g dk, qd, k.more g⟩
    | false => exact ⟨σ, F', Qd, R.grow g dk, qd, k.more g⟩⟩⟩

/-! ### arguments, displays -/
@[simp] def gNil (_ : List SV) (Q : List D → Prop) : Prop := Q []
@[simp] def gCons (fa : GE) (fs : GA) (σ : List SV) (Q : List D → Prop) : Prop := fa σ fun x => fs σ fun xs => Q (x :: xs)
theorem ad_nil : AD B X [] gNil := ⟨pa_imp pa_nil fun s H Q ⟨σ, F, Qd, R, q, k⟩ => k _ q F H _ (Grow.refl R.ex) R.deck .nil⟩
theorem ad_cons {fs : GA} (ha : ED B X e fa) (hr : AD B X es fs) (hs : starEach (e :: es) X.env = (false, eval e X.env) :: starEach es X.env := by rfl) : AD B X (e :: es) (gCons fa fs) :=
  ⟨pa_imp (pa_cons ha.run hr.run hs) fun s H Q ⟨σ, F, Qd, R, q, k⟩ => ⟨σ, F, _, R, q, fun d qd F1 H1 v g1 d1 r1 => ⟨σ, F1, _, R.grow g1 d1, qd, fun ds qds F2 H2 vs g2 d2 r2 => k _ qds F2 H2 _ (g1.trans g2) d2 (.cons (r1.mono g2.ff) r2)⟩⟩⟩
theorem abd_nil : ABD B X [] gNil := ⟨pa_imp pa_nil fun s H Q ⟨σ, F, Qd, R, q, k⟩ => k _ q F H _ (Grow.refl R.ex) R.deck .nil⟩
theorem abd_cons {fs : GA} (ha : BD B X e fa) (hr : ABD B X es fs) (hs : starEach (e :: es) X.env = (false, eval e X.env) :: starEach es X.env := by rfl) : ABD B X (e :: es) (gCons fa fs) :=
  ⟨pa_imp (pa_cons ha.run hr.run hs) fun s H Q ⟨σ, F, Qd, R, q, k⟩ => ⟨σ, F, _, R, q, fun d qd F1 H1 v g1 d1 r1 => ⟨σ, F1, _, R.grow g1 d1, qd, fun ds qds F2 H2 vs g2 d2 r2 => k _ qds F2 H2 _ (g1.trans g2) d2 (.cons (r1.grow g2) r2)⟩⟩⟩
@[simp] def gTup (fs : GA) (σ : List SV) (Q : D → Prop) : Prop := fs σ fun xs => xs.length ≤ sizeLine ∧ Q (.tup xs)
@[simp] def gLst (fs : GA) (σ : List SV) (Q : List D → Prop) : Prop := fs σ fun xs => xs.length ≤ sizeLine ∧ Q xs
theorem ed_tup {fs : GA} {x1} (h : AD B X es fs) : ED B X (.Tuple es x1 pos) (gTup fs) :=
  ⟨pe_imp (pe_tup h.run) fun s H Q ⟨σ, F, Qd, R, q, k⟩ => ⟨σ, F, _, R, q, fun ds qd F1 H1 vs g1 d1 r1 => ⟨by rw [r1.length]; exact qd.1, fun p hp =>
    (k.more g1).frz g1.fh d1 qd.2 hp (.tup (SqT.of upd_same) (r1.mono (same_new (g1.fh.free hp))))⟩⟩⟩
theorem fd_lst {fs : GA} (h : AD B X es fs) : FD B X (.List es pos) (gLst fs) :=
  ⟨pe_imp (pe_lst h.run) fun s H Q ⟨σ, F, Qd, R, q, k⟩ => ⟨σ, F, _, R, q, fun ds qd F1 H1 vs g1 d1 r1 => ⟨by rw [r1.length]; exact qd.1, fun p hp => (k.more g1).laid g1.fh d1 qd.2 hp r1⟩⟩⟩

/-! ### items -/
def look {κ : Type} [BEq κ] (kvs : List (κ × D)) (k : κ) : Option D := kvs.lookup k
def ixD : D → D → (D → Prop) → Prop
  | .tup xs, .int i, Q => ∃ x, atI xs i = some x ∧ Q x
  | .lst xs, .int i, Q => ∃ x, atI xs i = some x ∧ Q x
  | .str z, .int i, Q => z.length ≤ sizeLine ∧ ∃ c, atI z.cps.toList i = some c ∧ Q (.str ⟨#[c]⟩)
  | _, _, _ => False
theorem Reps.atI {K : Kn} {F : Hp} {vs : List V} {ds : List D} {i : Int} {x : D} (h : Reps K F vs ds) (e : L2.atI ds i = some x) : ∃ v, L2.atI vs i = some v ∧ Rep K F v x := by
  unfold L2.atI at e ⊢
  rw [h.length]
  cases q : ixN ds.length i with
  | none =>
    rw [q] at e
    cases e
  | some j =>
    rw [q] at e
    obtain ⟨v, h1, h2⟩ := h.get (i := j) (x := x) e
    exact ⟨v, h1, h2⟩
theorem ixR_by {r' : R2} (w : ∀ v u H Q, r' v u H Q → ∃ r, IxR X r ∧ r v u H Q) : IxR X r' := fun vl sl pins s σ H x y v u Q I rx ry h hs => by
  obtain ⟨r, h1, h2⟩ := w _ _ _ _ h
  exact h1 vl sl pins s σ H x y v u Q I rx ry h2 hs
theorem o_ix : IxR X (LO2 B X.kn ixD) := ixR_by fun v u H Q ⟨F, x, y, Qd, e, dk, r1, r2, q, k⟩ => by
  unfold ixD at q
  split at q
  · obtain ⟨a, vs, rfl, _, h, s⟩ := r1.tup e
    obtain ⟨x, h1, q⟩ := q
    obtain ⟨w, h2, h3⟩ := s.atI h1
    exact ⟨_, ix_tup, a, vs, _, w, rfl, r2.int, h, h2, k.here e dk q h3⟩
  · obtain ⟨a, vs, rfl, h, s⟩ := r1.lst e
    obtain ⟨x, h1, q⟩ := q
    obtain ⟨w, h2, h3⟩ := s.atI h1
    exact ⟨_, ix_list, a, vs, _, w, rfl, r2.int, SqL.of h, h2, k.here e dk q h3⟩
  · obtain ⟨z, c, h1, q⟩ := q
    exact ⟨_, ix_str, _, _, c, r1.str, r2.int, z, h1, k.here e dk q (.str _)⟩
  · exact q.elim
theorem ed_ix (ha : BD B X a fa) (hb : BD B X b fb) (hs : PlainIx b := by exact fun _ _ => rfl) : ED B X (.Subscript a b pos) (gBin ixD fa fb) :=
  ⟨pe_imp (pe_ix o_ix ha.run hb.run hs) fun s H Q ⟨σ, F, Qd, R, q, k⟩ => lo2_of R q k⟩

/-! ### slices -/
abbrev GO := List SV → (Option Int → Prop) → Prop
def LO (B : Bs) (K : Kn) (f : GO) : TO := fun s H Q => ∃ σ F Qd, Rel B K σ s F H ∧ f σ Qd ∧ ∀ o, Qd o → ∀ F' H', Grow B.W F H F' H' → DeckIn B.W F' H' → Q o H'
structure OD (B : Bs) (X : Cx) (e : Option Expr) (f : GO) : Prop where
  run : PO X e (LO B X.kn f)
theorem po_imp {e : Option Expr} {t t' : TO} (h : PO X e t) (w : ∀ s H Q, t' s H Q → t s H Q) : PO X e t' := ⟨fun pins s σ H Q I q => h.run pins s σ H Q I (w _ _ _ q)⟩
@[simp] def gNoPart (_ : List SV) (Q : Option Int → Prop) : Prop := Q none
def unI (d : D) (Q : Int → Prop) : Prop := ∃ i, d = .int i ∧ Q i
@[simp] theorem unI_i (b : Int) (Q : Int → Prop) : unI (.int b) Q ↔ Q b := ⟨fun ⟨_, e, q⟩ => by cases e; exact q, fun q => ⟨b, rfl, q⟩⟩
@[simp] def gPart (fa : GE) (σ : List SV) (Q : Option Int → Prop) : Prop := fa σ fun d => unI d fun i => Q (some i)
theorem od_none : OD B X none gNoPart := ⟨po_imp po_none fun s H Q ⟨σ, F, Qd, R, q, k⟩ => k _ q F H (Grow.refl R.ex) R.deck⟩
theorem od_some (ha : ED B X a fa) : OD B X (some a) (gPart fa) := ⟨po_imp (po_some ha.run) fun s H Q ⟨σ, F, Qd, R, q, k⟩ => ⟨σ, F, _, R, q, fun d ⟨i, e, q⟩ F' H' v g dk r => by
  subst e
  cases r
  exact ⟨i, rfl, k _ q F' H' g dk⟩⟩⟩
def cutG {α : Type} (xs : List α) (lo hi : Option Int) : List α := (xs.drop (HT.sIx xs.length 0 lo)).take (HT.sIx xs.length xs.length hi - HT.sIx xs.length 0 lo)
theorem Reps.cut {K : Kn} {F : Hp} {vs : List V} {ds : List D} (h : Reps K F vs ds) (lo hi : Option Int) : Reps K F (cutV vs lo hi) (cutG ds lo hi) := by
  unfold cutV cutG
  rw [h.length]
  exact (h.drop _).take _
def slD : D → Option Int → Option Int → (D → Prop) → Prop
  | .tup xs, lo, hi, Q => Q (.tup (cutG xs lo hi))
  | .lst xs, lo, hi, Q => Q (.lst (cutG xs lo hi))
  | .str z, lo, hi, Q => z.length ≤ sizeLine ∧ Q (.str (cutS z lo hi))
  | _, _, _, _ => False
def LSl (B : Bs) (K : Kn) (g : D → Option Int → Option Int → (D → Prop) → Prop) : V → Option Int → Option Int → Hp → VK → Prop := fun v lo hi H Q => ∃ F x Qd, Same F H ∧ DeckIn B.W F H ∧ RepB B.W K F H v x ∧ g x lo hi Qd ∧ Fin B K F H Qd Q
theorem slR_by {r' : V → Option Int → Option Int → Hp → VK → Prop} (w : ∀ v l h H Q, r' v l h H Q → ∃ r, SlR X r ∧ r v l h H Q) : SlR X r' := by
  intro pins s σ H x v vl vu lo hi sl Q I rx hs p1 p2 h
  obtain ⟨r, h1, h2⟩ := w _ _ _ _ _ h
  exact h1 pins s σ H x v vl vu lo hi sl Q I rx hs p1 p2 h2
theorem sIx_zero_full {α : Type} (xs : List α) (lo hi : Option Int) (h : HT.sIx xs.length 0 lo = 0 ∧ HT.sIx xs.length xs.length hi = xs.length) : cutG xs lo hi = xs := by
  unfold cutG
  rw [h.1, h.2]
  simp
theorem o_sl : SlR X (LSl B X.kn slD) := slR_by fun v lo hi H Q ⟨F, x, Qd, e, dk, r1, q, k⟩ => by
  unfold slD at q
  split at q
  · obtain ⟨a, vs, rfl, f1, h, s⟩ := r1.tup e
    refine ⟨_, sl_tupA, a, vs, rfl, h, fun z => ?_, fun z p hp => ?_⟩
    · rw [s.length] at z
      rw [sIx_zero_full _ _ _ z] at q
      exact k.here e dk q (.tup f1 s)
    · exact k.frz e dk q hp (.tup (SqT.of upd_same) ((s.cut _ _).mono (same_new (e.free hp))))
  · obtain ⟨a, vs, rfl, h, s⟩ := r1.lst e
    exact ⟨_, sl_list, a, vs, rfl, SqL.of h, fun p hp => k.frz e dk q hp (.lst upd_same ((s.cut _ _).mono (same_new (e.free hp))))⟩
  · exact ⟨_, sl_str, _, r1.str, q.1, k.here e dk q.2 (.str _)⟩
  · exact q.elim
@[simp] def gSl (g : D → Option Int → Option Int → (D → Prop) → Prop) (fa : GE) (fl fh : GO) (σ : List SV) (Q : D → Prop) : Prop := fa σ fun x => fl σ fun l => fh σ fun h => g x l h Q
theorem ed_sl {lo hi : Option Expr} {fl fh : GO} {p2 : Pos} (ha : BD B X a fa) (hl : OD B X lo fl) (hh : OD B X hi fh) : ED B X (.Subscript a (.Slice lo hi none p2) pos) (gSl slD fa fl fh) :=
  ⟨pe_imp (pe_slice o_sl ha.run hl.run hh.run) fun s H Q ⟨σ, F, Qd, R, q, k⟩ => ⟨σ, F, _, R, q, fun x qx F1 H1 v g1 d1 r1 => ⟨σ, F1, _, R.grow g1 d1, qx, fun l ql F2 H2 g2 d2 =>
    ⟨σ, F2, _, R.grow (g1.trans g2) d2, ql, fun h qh F3 H3 g3 d3 => ⟨F3, x, Qd, g3.fh, d3, (r1.grow g2).grow g3, qh, k.more ((g1.trans g2).trans g3)⟩⟩⟩⟩⟩
/-- a slice of a list, a new list of one's own -/
def slF : D → Option Int → Option Int → (List D → Prop) → Prop
  | .lst xs, lo, hi, Q => Q (cutG xs lo hi)
  | _, _, _, _ => False
def LSlF (B : Bs) (K : Kn) (g : D → Option Int → Option Int → (List D → Prop) → Prop) : V → Option Int → Option Int → Hp → VK → Prop := fun v lo hi H Q => ∃ F x Qd, Same F H ∧ DeckIn B.W F H ∧ RepB B.W K F H v x ∧ g x lo hi Qd ∧ FinF B K F H Qd Q
theorem o_slF : SlR X (LSlF B X.kn slF) := slR_by fun v lo hi H Q ⟨F, x, Qd, e, dk, r1, q, k⟩ => by
  unfold slF at q
  split at q
  · obtain ⟨a, vs, rfl, h, s⟩ := r1.lst e
    exact ⟨_, sl_list, a, vs, rfl, SqL.of h, fun p hp => k.laid e dk q hp (s.cut _ _)⟩
  · exact q.elim
@[simp] def gSlF (g : D → Option Int → Option Int → (List D → Prop) → Prop) (fa : GE) (fl fh : GO) (σ : List SV) (Q : List D → Prop) : Prop := fa σ fun x => fl σ fun l => fh σ fun h => g x l h Q
theorem fd_sl {lo hi : Option Expr} {fl fh : GO} {p2 : Pos} (ha : BD B X a fa) (hl : OD B X lo fl) (hh : OD B X hi fh) : FD B X (.Subscript a (.Slice lo hi none p2) pos) (gSlF slF fa fl fh) :=
  ⟨pe_imp (pe_slice o_slF ha.run hl.run hh.run) fun s H Q ⟨σ, F, Qd, R, q, k⟩ => ⟨σ, F, _, R, q, fun x qx F1 H1 v g1 d1 r1 => ⟨σ, F1, _, R.grow g1 d1, qx, fun l ql F2 H2 g2 d2 =>
    ⟨σ, F2, _, R.grow (g1.trans g2) d2, ql, fun h qh F3 H3 g3 d3 => ⟨F3, x, Qd, g3.fh, d3, (r1.grow g2).grow g3, qh, k.more ((g1.trans g2).trans g3)⟩⟩⟩⟩⟩
/-- xs[::-1] of a list -/
def unL (d : D) (Q : List D → Prop) : Prop := ∃ xs, d = .lst xs ∧ Q xs
@[simp] theorem unL_l (b : List D) (Q : List D → Prop) : unL (.lst b) Q ↔ Q b := ⟨fun ⟨_, e, q⟩ => by cases e; exact q, fun q => ⟨b, rfl, q⟩⟩
@[simp] def gRev (fa : GE) (σ : List SV) (Q : List D → Prop) : Prop := fa σ fun d => unL d fun xs => Q xs.reverse
theorem fd_rev {k : Nat} {p1 p2 p3 : Pos} (ha : BD B X a fa) : FD B X (.Subscript a (.Slice none none (some (.UnaryOp .USub (.Constant (.int 1) k p1) p2)) p3) pos) (gRev fa) :=
  ⟨pe_imp (pe_revL ha.run) fun s H Q ⟨σ, F, Qd, R, q, k⟩ => ⟨σ, F, _, R, q, fun d ⟨xs, e, qx⟩ F1 H1 v g1 d1 r1 => by
    subst e
    obtain ⟨a, vs, rfl, h, s⟩ := r1.lst g1.fh
    exact ⟨a, vs, rfl, SqL.of h, fun p hp => (k.more g1).laid g1.fh d1 qx hp s.reverse⟩⟩⟩
/-- list + list, list * n: new lists of one's own -/
def catF : D → D → (List D → Prop) → Prop
  | .lst xs, .lst ys, Q => xs.length + ys.length ≤ sizeLine ∧ Q (xs ++ ys)
  | _, _, _ => False
def repF : D → D → (List D → Prop) → Prop
  | .lst xs, .int k, Q => 0 ≤ k ∧ k < 2 ^ 63 ∧ xs.length * k.toNat ≤ sizeLine ∧ Q (List.replicate k.toNat xs).flatten
  | _, _, _ => False
def LOF (B : Bs) (K : Kn) (g : D → D → (List D → Prop) → Prop) : R2 := fun v u H Q => ∃ F x y Qd, Same F H ∧ DeckIn B.W F H ∧ RepB B.W K F H v x ∧ RepB B.W K F H u y ∧ g x y Qd ∧ FinF B K F H Qd Q
@[simp] def gBinF (g : D → D → (List D → Prop) → Prop) (fa fb : GE) (σ : List SV) (Q : List D → Prop) : Prop := fa σ fun x => fb σ fun y => g x y Q
theorem o_catF : OpR X (binaryOp .Add) (LOF B X.kn catF) := opR_by fun v u H Q ⟨F, x, y, Qd, e, dk, r1, r2, q, k⟩ => by
  unfold catF at q
  split at q
  · obtain ⟨a, vs, rfl, h1, s1⟩ := r1.lst e
    obtain ⟨b, us, rfl, h2, s2⟩ := r2.lst e
    exact ⟨_, op_cat, a, b, vs, us, rfl, rfl, h1, h2, by rw [s1.length, s2.length]; exact q.1, fun p hp => k.laid e dk q.2 hp (s1.append s2)⟩
  · exact q.elim
theorem o_repF : OpR X (binaryOp .Mult) (LOF B X.kn repF) := opR_by fun v u H Q ⟨F, x, y, Qd, e, dk, r1, r2, q, k⟩ => by
  unfold repF at q
  split at q
  · obtain ⟨a, vs, rfl, h1, s1⟩ := r1.lst e
    obtain ⟨q0, q1, q2, q3⟩ := q
    exact ⟨_, op_rep, a, _, vs, rfl, r2.int, h1, by omega, q1, by rw [s1.length]; exact q2, fun p hp => k.laid e dk q3 hp (s1.rep _)⟩
  · exact q.elim
theorem fd_bin {op : Operator} {g : D → D → (List D → Prop) → Prop} (ho : OpR X (binaryOp op) (LOF B X.kn g)) (ha : BD B X a fa) (hb : BD B X b fb) : FD B X (.BinOp a op b pos) (gBinF g fa fb) :=
  ⟨pe_imp (pe_op ho ha.run hb.run) fun s H Q ⟨σ, F, Qd, R, q, k⟩ => lb_two (Qd := fun x y => g x y Qd) R q fun x y F' H' v u q g' d r1 r2 => ⟨F', x, y, Qd, g'.fh, d, r1, r2, q, k.more g'⟩⟩
end
end ND

/-! ND4: what a def promises, by data; calls -/
namespace ND
open PySem PySem.Spec L2
open PyProof.Rows (envOfC)

/-- an error: its class's name, its attributes -/
structure Er where
  nm : Str
  fs : List (Str × D)
/-- the exception of the class c with the dict o -/
def RepEr (K : Kn) (F H : Hp) (c : Value) (o : Option Addr) (er : Er) : Prop :=
  K.mg er.nm = some c ∧ (er.fs ≠ [] → ∃ a vs, o = some a ∧ H a = some (.xd vs) ∧ RepFs K F vs er.fs)
/-- what a def promises: the deck, the arguments, what is wanted of the answer, of an error -/
abbrev DSp := WD → List D → (D → Prop) → (Er → Prop) → Prop
def FinE (W : WD) (K : Kn) (F H : Hp) (Rd : Er → Prop) (E : XK) : Prop := ∀ er, Rd er → ∀ F' H' c o, Grow W F H F' H' → DeckIn W F' H' → RepEr K F' H' c o er → E c o H'
theorem FinE.more {W : WD} {K : Kn} {F H F' H' : Hp} {Rd : Er → Prop} {E : XK} (h : FinE W K F H Rd E) (g : Grow W F H F' H') : FinE W K F' H' Rd E := fun er q F2 H2 c o g2 d r => h er q F2 H2 c o (g.trans g2) d r
theorem FinE.none {W : WD} {K : Kn} {F H : Hp} : FinE W K F H (fun _ => False) E0 := fun _ q _ _ _ _ _ _ _ => q
def liftSp (K : Kn) (sp : DSp) : Sp := fun vs H Q E => ∃ W F ds Qd Rd, Same F H ∧ DeckIn W F H ∧ Reps K F vs ds ∧ sp W ds Qd Rd ∧ Fin ⟨W, F, H⟩ K F H Qd Q ∧ FinE W K F H Rd E

/-- as FnOk, where nothing is being shown around -/
structure FnG (P : Program) (w : World) (K : PySem.W.Frag) (mg : Str → Option Value) (base : Heap) (k : Nat) (f : Addr) (fd : FuncData) (ps : List Str) (sp : Sp) : Prop where
  len : ∀ vs H Q E, sp vs H Q E → vs.length = ps.length
  run : ∀ (A : Around) (outer : List Env) (s : Shared) (H : Hp) (args : Args) (us : List Value) (vs : List V) (Q : VK) (E : XK), A.guards = some [] → Room k A → Env0 P w K mg base A outer s H → BindsTo s fd args (ps.zip us) → Vals vs us → sp vs H Q E →
    codeAny (model P w) A (.call (.ref f) args) (CR (L2.CX P w) outer P w H s Q E) s
theorem FnG.of {P : Program} {w : World} {K : PySem.W.Frag} {mg : Str → Option Value} {base : Heap} {k : Nat} {f : Addr} {fd : FuncData} {ps : List Str} {sp : Sp} (F : FnOk P w K mg base (L2.CX P w) k f fd ps sp) : FnG P w K mg base k f fd ps sp :=
  ⟨F.len, fun A outer s H args us vs Q E _ => F.run A outer s H args us vs Q E⟩
section
variable {P : Program} {w : World} {K : PySem.W.Frag} {mg : Str → Option Value} {base : Heap} {k : Nat} {f : Addr} {qual name : Str} {scope : Scope} {cdv : Value} {N ps : List Str}
/-- how a body ends is how its call ends -/
theorem ends_call {A : Around} {outer : List Env} {s z : Shared} {H : Hp} {E : XK} {Q : VK} : ∀ {fl : Flow}, SP (cxOf (L2.CX P w) P w K mg base N qual scope f cdv A outer s H E) [] { nx := fun _ G => Q .non G, rt := Q } fl z →
    match fl with | .ret u => CE outer P w H s Q u z | .next => CE outer P w H s Q .none z | _ => False
  | .next, ⟨_, G, I, q⟩ => ⟨.non, G, I.os, I.bare, I.base, I.hok, rfl, q⟩
  | .ret _, ⟨v, _, G, I, r, q⟩ => ⟨v, G, I.os, I.bare, I.base, I.hok, r, q⟩
  | .brk, ⟨_, _, _, q⟩ => q
  | .cont, ⟨_, _, _, q⟩ => q
theorem par_kinds (S : FnScope N ps scope) {us : List Value} {n : Nat} : ∀ y ∈ ps.zip us, scope.names.lookup y.1 = some .local ∨ (scope.names.lookup y.1 = some .cell ∧ ((cellsFrom n scope.names []).lookup y.1).isSome = true) :=
  fun y hy => (S.par y.1 (List.of_mem_zip (show (y.1, y.2) ∈ _ from hy)).1).imp id fun q => ⟨q, PySem.W.cellsFrom_some _ _ _ (.inl q)⟩
/-- a def by its body, where nothing is being shown around -/
theorem fn_ofG {params : Arguments} {body : List Stmt} {dV kV doc pm ct oc : Value} {an od : Option Addr} {osl : Array (Option Value)} {sp : Sp}
    (at_f : K.lookup f = some ⟨oc, od, .func (PySem.W.fnOf name qual params body scope dV kV doc pm an cdv ct), osl⟩) (code : PySem.W.codeIn K cdv qual = true) (S : FnScope N ps scope) (cnt : ∀ vs H Q E, sp vs H Q E → vs.length = ps.length)
    (walk : ∀ (A : Around) (outer : List Env) (s : Shared) (H : Hp) (vs : List V) (Q : VK) (E : XK), (A.deeper (envOfC qual scope s.heap.objs.size f cdv)).guards = some [] → Room k (A.deeper (envOfC qual scope s.heap.objs.size f cdv)) → sp vs H Q E →
      ∃ t, PSs (cxOf (L2.CX P w) P w K mg base N qual scope f cdv A outer s H E) body t ∧ t { nx := fun _ G => Q .non G, rt := Q } (start N vs) H) :
    FnG P w K mg base (k + 1) f (PySem.W.fnOf name qual params body scope dV kV doc pm an cdv ct) ps sp :=
  ⟨cnt, fun A outer s H args us vs Q E quiet room env bound vals want => by
    have stands : ∀ b o, base.get? b = some o → s.heap.get? b = some o := fun b o e => (env.bs b o e).1
    have inK := env.mod.kin.keeps stands
    obtain ⟨t, does, goal⟩ := walk A outer s H vs Q E quiet (room.deeper _) want
    exact codeAny_call_function room.depth (inK _ _ at_f) rfl S.co S.gen rfl (PySem.W.codeRec_of inK code) (bound _ _ _ _ (wpAny_newFunctionEnv_cells S.kind (par_kinds S) fun e same z entered => by
      cases same
      exact ⟨(env.mod.nolimit.keeps stands).keeps entered.toInCall.keep, codeAny_func (wpAny_mono (does.run [] z (start N vs) H _ (inv_start S room.hd env (cnt _ _ _ _ want) vals entered) goal)
        (fun fl z2 q => by
          have r := ends_call q
          cases fl <;> first | exact r | exact r.elim) fun _ _ q => q)⟩))⟩
end

/-! ### calls of a def of the module, by position -/
@[simp] def gCall (sp : DSp) (W : WD) (R : Er → Prop) (fs : GA) (σ : List SV) (Q : D → Prop) : Prop := fs σ fun ds => sp W ds Q R
section
variable {B : Bs} {X : Cx} {k : Nat} {f : Addr} {fd : FuncData} {ps : List Str} {sp : DSp} {R : Er → Prop} {E : XK} {x : Str} {p pos : Pos} {e : Expr} {es : List Expr} {fs : GA}
theorem la_call {s : L2.St} {σ : List SV} {F H : Hp} {Qd : D → Prop} {Q : VK} {K : Kn} (hE : FinE B.W K B.F B.H R E) (Rl : Rel B K σ s F H) (q : gCall sp B.W R fs σ Qd) (kf : Fin B K F H Qd Q) : LA B K fs s H fun vs H1 => liftSp K sp (vs ++ []) H1 Q E :=
  ⟨σ, F, _, Rl, q, fun ds qds F1 H1 vs g1 d1 r1 => ⟨B.W, F1, ds, Qd, R, g1.fh, d1, by rw [List.append_nil]; exact r1, qds, fun d qd F2 H2 v g2 d2 r2 => kf d qd F2 H2 v (g1.trans g2) d2 r2, hE.more (Rl.base.trans g1)⟩⟩
theorem ed_call (G : FnOk X.prog X.w X.K X.mg X.base (L2.CX X.prog X.w) k f fd ps (liftSp X.kn sp)) (hr : Room k X.A) (hg : Gl X x) (hm : X.mg x = some (.ref f)) (hk : PySem.W.keepIn X.K (.ref f) = true) (hb : Binds X.K fd ps []) (hx : Passes (L2.CX X.prog X.w) X E) (hE : FinE B.W X.kn B.F B.H R E)
    (ha : AD B X (e :: es) fs) (hdb : (x == ("__debug__" : Str)) = false := by decide) (he : starEach (e :: es) X.env = (false, eval e X.env) :: starEach es X.env := by rfl) (hpl : (backTo pos (starEach es X.env)).any (·.1) = false := by rfl) :
    ED B X (.Call (.Name x p) (e :: es) [] pos) (gCall sp B.W R fs) :=
  ⟨pe_imp (pe_call G hr hg hm hk hb .nil hx ha.run hdb he hpl) fun s H Q ⟨σ, F, Qd, Rl, q, kf⟩ => la_call hE Rl q kf⟩
theorem ed_call0 (G : FnOk X.prog X.w X.K X.mg X.base (L2.CX X.prog X.w) k f fd ps (liftSp X.kn sp)) (hr : Room k X.A) (hg : Gl X x) (hm : X.mg x = some (.ref f)) (hk : PySem.W.keepIn X.K (.ref f) = true) (hb : Binds X.K fd ps []) (hx : Passes (L2.CX X.prog X.w) X E) (hE : FinE B.W X.kn B.F B.H R E)
    (hdb : (x == ("__debug__" : Str)) = false := by decide) : ED B X (.Call (.Name x p) [] [] pos) (gCall sp B.W R gNil) :=
  ⟨pe_imp (pe_call0 G hr hg hm hk hb .nil hx hdb) fun s H Q ⟨σ, F, Qd, Rl, q, kf⟩ => ⟨B.W, F, [], Qd, R, Rl.ex, Rl.deck, .nil, q, fun d qd F2 H2 v g2 d2 r2 => kf d qd F2 H2 v g2 d2 r2, hE.more Rl.base⟩⟩
/-- a call's end, back in the caller -/
theorem back_in {pins : List (Addr × Obj)} {σ : L2.St} {H : Hp} {s z : Shared} {Q : VK} (I : Inv X pins σ H s) (lets : Passes (L2.CX X.prog X.w) X E) : ∀ {r : Result}, CR (L2.CX X.prog X.w) X.stack X.prog X.w H s Q E r z →
    match r with | .ok (.ret u) => EP X pins σ Q u z | .ok _ => False | .error e => X.xe e z
  | .ok (.ret _), h => I.after h
  | .ok .next, h => h
  | .ok .brk, h => h
  | .ok .cont, h => h
  | .error _, h => lets _ _ _ _ _ _ I h
theorem pe_callG {sp : Sp} {t : TA} (F : FnG X.prog X.w X.K X.mg X.base k f fd ps sp) (quiet : X.A.guards = some []) (room : Room k X.A) (glob : Gl X x) (isf : X.mg x = some (.ref f)) (kept : PySem.W.keepIn X.K (.ref f) = true) (bind : Binds X.K fd ps []) (lets : Passes (L2.CX X.prog X.w) X E) (args : PA X (e :: es) t)
    (ndb : (x == ("__debug__" : Str)) = false := by decide) (star : starEach (e :: es) X.env = (false, eval e X.env) :: starEach es X.env := by rfl) (plain : (backTo pos (starEach es X.env)).any (·.1) = false := by rfl) :
    PE X (.Call (.Name x p) (e :: es) [] pos) (fun σ H Q => t σ H fun vs G => sp vs G Q E) :=
  ⟨fun pins s σ H Q I h => wpAny_Call_Name_kw (ld_glob I glob isf (PySem.W.callWith_K (h₀ := X.base) I.ok.mod.kin kept (thn (args.run pos pins s σ H _ I h) fun us z ⟨vs, G, J, vals, q⟩ => ⟨J.kIn, by
    have n : us.length = ps.length := (Vals.length vals).symm.trans (F.len _ _ _ _ q)
    have bd := bind z us J.kIn (by rw [List.append_nil]; exact n)
    rw [List.append_nil] at bd
    refine wpAny_call (codeAny_mono (F.run X.A X.stack z G ⟨us, []⟩ us vs Q E quiet room J.env0 bd vals q) fun r z2 o => ?_)
    have b := back_in J lets o
    rcases r with _ | fl
    · exact b
    · cases fl <;> first | exact b | exact b.elim⟩) star plain) ndb)⟩
theorem ed_callG (G : FnG X.prog X.w X.K X.mg X.base k f fd ps (liftSp X.kn sp)) (hG : X.A.guards = some []) (hr : Room k X.A) (hg : Gl X x) (hm : X.mg x = some (.ref f)) (hk : PySem.W.keepIn X.K (.ref f) = true) (hb : Binds X.K fd ps []) (hx : Passes (L2.CX X.prog X.w) X E) (hE : FinE B.W X.kn B.F B.H R E)
    (ha : AD B X (e :: es) fs) (hdb : (x == ("__debug__" : Str)) = false := by decide) (he : starEach (e :: es) X.env = (false, eval e X.env) :: starEach es X.env := by rfl) (hpl : (backTo pos (starEach es X.env)).any (·.1) = false := by rfl) :
    ED B X (.Call (.Name x p) (e :: es) [] pos) (gCall sp B.W R fs) :=
  ⟨pe_imp (pe_callG G hG hr hg hm hk hb hx ha.run hdb he hpl) fun s H Q ⟨σ, F, Qd, Rl, q, kf⟩ => by
    have z := la_call (s := s) (Q := Q) hE Rl q kf
    simpa using z⟩

/-! ### by keywords: n positional values, m by keyword, put in the order pm -/
def permA {α : Type} (n m : Nat) (pm : List Nat) (us ws : List α) : List α := if us.length = n ∧ ws.length = m then pm.filterMap fun i => (us ++ ws)[i]? else []
theorem paired_app {α β : Type} {R : α → β → Prop} : ∀ {a c : List α} {b d : List β}, Paired R a b → Paired R c d → Paired R (a ++ c) (b ++ d)
  | _, _, _, _, .nil, h => h
  | _, _, _, _, .cons r t, h => .cons r (paired_app t h)
theorem paired_at {α β : Type} {R : α → β → Prop} : ∀ {a : List α} {b : List β} (i : Nat), Paired R a b → (a[i]? = none ∧ b[i]? = none) ∨ ∃ x y, a[i]? = some x ∧ b[i]? = some y ∧ R x y
  | _, _, _, .nil => .inl ⟨by simp, by simp⟩
  | _, _, 0, .cons r _ => .inr ⟨_, _, rfl, rfl, r⟩
  | _, _, i + 1, .cons _ t => by simpa using paired_at i t
theorem paired_pick {α β : Type} {R : α → β → Prop} {a : List α} {b : List β} (h : Paired R a b) : ∀ pm : List Nat, Paired R (pm.filterMap fun i => a[i]?) (pm.filterMap fun i => b[i]?)
  | [] => .nil
  | i :: pm => by
    rw [List.filterMap_cons, List.filterMap_cons]
    rcases paired_at i h with ⟨e1, e2⟩ | ⟨x, y, e1, e2, r⟩
    · rw [e1, e2]
      exact paired_pick h pm
    · rw [e1, e2]
      exact .cons r (paired_pick h pm)
theorem paired_len {α β : Type} {R : α → β → Prop} {a : List α} {b : List β} (h : Paired R a b) : a.length = b.length := Paired.length h
theorem paired_perm {α β : Type} {R : α → β → Prop} {n m : Nat} {pm : List Nat} {us ws : List α} {us' ws' : List β} (h : Paired R us us') (h' : Paired R ws ws') : Paired R (permA n m pm us ws) (permA n m pm us' ws') := by
  unfold permA
  rw [paired_len h, paired_len h']
  split
  · exact paired_pick (paired_app h h') pm
  · exact .nil
theorem Reps.pair {K : Kn} {F : Hp} : ∀ {vs : List V} {ds : List D}, Reps K F vs ds → Paired (Rep K F) vs ds
  | _, _, .nil => .nil
  | _, _, .cons r t => .cons r (Reps.pair t)
theorem Reps.of_pair {K : Kn} {F : Hp} : ∀ {vs : List V} {ds : List D}, Paired (Rep K F) vs ds → Reps K F vs ds
  | _, _, .nil => .nil
  | _, _, .cons r t => .cons r (Reps.of_pair t)
theorem kb_perm {K : PySem.W.Frag} {ks : List Str} {n m : Nat} {pm : List Nat} (hp : ps ≠ []) (h : ∀ us ws : List Value, us.length = n → ws.length = m → bindArgs fd ⟨us, ks.zip ws⟩ = pure (ps.zip (permA n m pm us ws))) : KBinds K fd ps ks (permA n m pm) (permA n m pm) :=
  ⟨fun s us ws _ hl => by
    have hc : us.length = n ∧ ws.length = m := by
      by_cases c : us.length = n ∧ ws.length = m
      · exact c
      · exfalso
        unfold permA at hl
        rw [if_neg c] at hl
        cases ps with
        | nil => exact hp rfl
        | cons _ _ => simp at hl
    exact .of_eq (h us ws hc.1 hc.2), fun r1 r2 => paired_perm r1 r2⟩
structure KD (B : Bs) (X : Cx) (kws : List Keyword) (f : GA) : Prop where
  run : PK X kws (LA B X.kn f)
theorem pk_imp {X : Cx} {kws : List Keyword} {t t' : TA} (h : PK X kws t) (w : ∀ s H Q, t' s H Q → t s H Q) : PK X kws t' := ⟨fun pos pins s σ H Q I q => h.run pos pins s σ H Q I (w _ _ _ q)⟩
theorem kd_nil : KD B X [] gNil := ⟨pk_imp pk_nil fun s H Q ⟨σ, F, Qd, R, q, k⟩ => k _ q F H _ (Grow.refl R.ex) R.deck .nil⟩
theorem kd_cons {nm : Option Str} {kpos : Pos} {kws : List Keyword} {fa : GE} (ha : ED B X e fa) (hr : KD B X kws fs) : KD B X (⟨nm, e, kpos⟩ :: kws) (gCons fa fs) :=
  ⟨pk_imp (pk_cons ha.run hr.run) fun s H Q ⟨σ, F, Qd, R, q, k⟩ => ⟨σ, F, _, R, q, fun d qd F1 H1 v g1 d1 r1 => ⟨σ, F1, _, R.grow g1 d1, qd, fun ds qds F2 H2 vs g2 d2 r2 => k _ qds F2 H2 _ (g1.trans g2) d2 (.cons (r1.mono g2.ff) r2)⟩⟩⟩
/-- f(e, .., k = v, ..) or f(k = v, ..) -/
@[simp] def gCallK (sp : DSp) (n m : Nat) (pm : List Nat) (W : WD) (R : Er → Prop) (fs fk : GA) (σ : List SV) (Q : D → Prop) : Prop := fs σ fun us => fk σ fun ws => sp W (permA n m pm us ws) Q R
variable {ks : List Str} {kws : List Keyword} {fk : GA} {n m : Nat} {pm : List Nat}
theorem pe_callK0 {sp : Sp} {gV : List V → List V → List V} {g : List Value → List Value → List Value} {tk : TA} (F : FnOk X.prog X.w X.K X.mg X.base (L2.CX X.prog X.w) k f fd ps sp) (room : Room k X.A) (glob : Gl X x) (isf : X.mg x = some (.ref f)) (kept : PySem.W.keepIn X.K (.ref f) = true)
    (bind : KBinds X.K fd ps ks g gV) (lets : Passes (L2.CX X.prog X.w) X E) (named : PK X kws tk) (each : (backToKw pos (keywordEach kws X.env)).all (·.1.isSome) = true := by rfl) (order : (backToKw pos (keywordEach kws X.env)).filterMap (·.1) = ks := by rfl) (ndb : (x == ("__debug__" : Str)) = false := by decide)
    (plain : ((backTo pos (starEach [] X.env)).any (·.1) || (backToKw pos (keywordEach kws X.env)).any (·.1.isNone)) = false := by rfl) : PE X (.Call (.Name x p) [] kws pos) (tCallK sp gV E tNil tk) :=
  ⟨fun pins s σ H Q I h => wpAny_Call_Name_kw (ld_glob I glob isf (PySem.W.callWith_KW0 (h₀ := X.base) I.ok.mod.kin kept each (thn (named.run pos pins s σ H _ I h) fun ws z ⟨zs, G, J, vals, q⟩ => ⟨J.kIn, order ▸ run_fnk (us := []) (vs := []) F room bind lets J .nil vals q⟩) plain) ndb)⟩
theorem la_callK {s : L2.St} {σ : List SV} {F H : Hp} {Qd : D → Prop} {Q : VK} {K : Kn} (hE : FinE B.W K B.F B.H R E) (Rl : Rel B K σ s F H) (q : gCallK sp n m pm B.W R fs fk σ Qd) (kf : Fin B K F H Qd Q) :
    LA B K fs s H fun vs H1 => LA B K fk s H1 fun zs H2 => liftSp K sp (permA n m pm vs zs) H2 Q E :=
  ⟨σ, F, _, Rl, q, fun ds qds F1 H1 vs g1 d1 r1 => ⟨σ, F1, _, Rl.grow g1 d1, qds, fun zs qzs F2 H2 ws g2 d2 r2 => ⟨B.W, F2, _, Qd, R, g2.fh, d2, Reps.of_pair (paired_perm (r1.mono g2.ff).pair r2.pair), qzs,
    fun d qd F3 H3 v g3 d3 r3 => kf d qd F3 H3 v ((g1.trans g2).trans g3) d3 r3, hE.more ((Rl.base.trans g1).trans g2)⟩⟩⟩
theorem ed_callK (G : FnOk X.prog X.w X.K X.mg X.base (L2.CX X.prog X.w) k f fd ps (liftSp X.kn sp)) (hr : Room k X.A) (hg : Gl X x) (hm : X.mg x = some (.ref f)) (hk : PySem.W.keepIn X.K (.ref f) = true) (hb : KBinds X.K fd ps ks (permA n m pm) (permA n m pm)) (hx : Passes (L2.CX X.prog X.w) X E) (hE : FinE B.W X.kn B.F B.H R E)
    (ha : AD B X (e :: es) fs) (hkw : KD B X kws fk) (hall : (backToKw pos (keywordEach kws X.env)).all (·.1.isSome) = true := by rfl) (hks : (backToKw pos (keywordEach kws X.env)).filterMap (·.1) = ks := by rfl)
    (hdb : (x == ("__debug__" : Str)) = false := by decide) (he : starEach (e :: es) X.env = (false, eval e X.env) :: starEach es X.env := by rfl)
    (hpl : ((backTo pos (starEach (e :: es) X.env)).any (·.1) || (backToKw pos (keywordEach kws X.env)).any (·.1.isNone)) = false := by rfl) :
    ED B X (.Call (.Name x p) (e :: es) kws pos) (gCallK sp n m pm B.W R fs fk) :=
  ⟨pe_imp (pe_callK G hr hg hm hk hb hx ha.run hkw.run hall hks hdb he hpl) fun s H Q ⟨σ, F, Qd, Rl, q, kf⟩ => la_callK hE Rl q kf⟩
theorem ed_callK0 (G : FnOk X.prog X.w X.K X.mg X.base (L2.CX X.prog X.w) k f fd ps (liftSp X.kn sp)) (hr : Room k X.A) (hg : Gl X x) (hm : X.mg x = some (.ref f)) (hk : PySem.W.keepIn X.K (.ref f) = true) (hb : KBinds X.K fd ps ks (permA n m pm) (permA n m pm)) (hx : Passes (L2.CX X.prog X.w) X E) (hE : FinE B.W X.kn B.F B.H R E)
    (hkw : KD B X kws fk) (hall : (backToKw pos (keywordEach kws X.env)).all (·.1.isSome) = true := by rfl) (hks : (backToKw pos (keywordEach kws X.env)).filterMap (·.1) = ks := by rfl)
    (hdb : (x == ("__debug__" : Str)) = false := by decide)
    (hpl : ((backTo pos (starEach [] X.env)).any (·.1) || (backToKw pos (keywordEach kws X.env)).any (·.1.isNone)) = false := by rfl) :
    ED B X (.Call (.Name x p) [] kws pos) (gCallK sp n m pm B.W R gNil fk) :=
  ⟨pe_imp (pe_callK0 G hr hg hm hk hb hx hkw.run hall hks hdb hpl) fun s H Q ⟨σ, F, Qd, Rl, q, kf⟩ => ⟨σ, F, _, Rl, q, fun zs qzs F2 H2 ws g2 d2 r2 => ⟨B.W, F2, _, Qd, R, g2.fh, d2, Reps.of_pair (paired_perm .nil r2.pair), qzs,
    fun d qd F3 H3 v g3 d3 r3 => kf d qd F3 H3 v (g2.trans g3) d3 r3, hE.more (Rl.base.trans g2)⟩⟩⟩
end
end ND

/-! ND5: statements, loops -/
namespace ND
open PySem PySem.Spec L2
open PyProof.Rows (envOfC)

/-- what is wanted behind a statement, by data -/
structure Ed where
  nx : List SV → Prop
  rt : D → Prop
  bk : List SV → Prop
  ct : List SV → Prop
abbrev GS := Ed → List SV → Prop
structure EdOk (B : Bs) (K : Kn) (F : Hp) (E : Ed) (Dn : Ends) : Prop where
  nx : ∀ σ s F' H, Same F F' → Rel B K σ s F' H → E.nx σ → Dn.nx s H
  rt : ∀ d v F' H, Same F F' → Grow B.W B.F B.H F' H → DeckIn B.W F' H → Rep K F' v d → E.rt d → Dn.rt v H
  bk : ∀ σ s F' H, Same F F' → Rel B K σ s F' H → E.bk σ → Dn.bk s H
  ct : ∀ σ s F' H, Same F F' → Rel B K σ s F' H → E.ct σ → Dn.ct s H
def LS (B : Bs) (K : Kn) (g : GS) : TS := fun Dn s H => ∃ σ F E, Rel B K σ s F H ∧ g E σ ∧ EdOk B K F E Dn
structure SD (B : Bs) (X : Cx) (st : Stmt) (g : GS) : Prop where
  run : PS X st (LS B X.kn g)
structure SDs (B : Bs) (X : Cx) (sts : List Stmt) (g : GS) : Prop where
  run : PSs X sts (LS B X.kn g)
theorem EdOk.more {B : Bs} {K : Kn} {F F' : Hp} {E : Ed} {Dn : Ends} (h : EdOk B K F E Dn) (e : Same F F') : EdOk B K F' E Dn :=
  ⟨fun σ s F2 H a => h.nx σ s F2 H (e.trans a), fun d v F2 H a => h.rt d v F2 H (e.trans a), fun σ s F2 H a => h.bk σ s F2 H (e.trans a), fun σ s F2 H a => h.ct σ s F2 H (e.trans a)⟩
theorem ps_imp {X : Cx} {st : Stmt} {t t' : TS} (h : PS X st t) (w : ∀ Dn s H, t' Dn s H → t Dn s H) : PS X st t' := ⟨fun pins s σ H Dn I q => h.run pins s σ H Dn I (w _ _ _ q)⟩
theorem pss_imp {X : Cx} {st : List Stmt} {t t' : TS} (h : PSs X st t) (w : ∀ Dn s H, t' Dn s H → t Dn s H) : PSs X st t' := ⟨fun pins s σ H Dn I q => h.run pins s σ H Dn I (w _ _ _ q)⟩

@[simp] def gSkip (E : Ed) (σ : List SV) : Prop := E.nx σ
@[simp] def gSeq (g h : GS) (E : Ed) (σ : List SV) : Prop := g { E with nx := h E } σ
@[simp] def gDrop (fa : GE) (E : Ed) (σ : List SV) : Prop := fa σ fun _ => E.nx σ
@[simp] def gSet (i : Nat) (fa : GE) (E : Ed) (σ : List SV) : Prop := fa σ fun d => E.nx (σ.set i (.d d))
@[simp] def gSetL (i : Nat) (fa : GA) (E : Ed) (σ : List SV) : Prop := fa σ fun ds => E.nx (σ.set i (.ol ds))
@[simp] def gRet (fa : GE) (E : Ed) (σ : List SV) : Prop := fa σ E.rt
@[simp] def gRetN (E : Ed) (_ : List SV) : Prop := E.rt .non
@[simp] def gIfS (ft : GT) (g h : GS) (E : Ed) (σ : List SV) : Prop := ft σ fun b => if b = true then g E σ else h E σ
@[simp] def gBrk (E : Ed) (σ : List SV) : Prop := E.bk σ
@[simp] def gCnt (E : Ed) (σ : List SV) : Prop := E.ct σ
@[simp] def gNever (_ : Ed) (_ : List SV) : Prop := False
/-- a slot of one's own becomes data -/
def fz (i : Nat) (σ : List SV) : List SV := match σ[i]? with
  | some (.ol xs) => σ.set i (.d (.lst xs))
  | some (.od ks) => σ.set i (.d (.dic ks))
  | _ => σ
def gFz (i : Nat) (g : GS) : GS := fun E σ => g E (fz i σ)

section
variable {B : Bs} {X : Cx} {e a b c : Expr} {es : List Expr} {fa fb : GE} {fs : GA} {ft : GT} {g h : GS} {pos : Pos} {st : Stmt} {rest sts sts' : List Stmt}
theorem sds_nil : SDs B X [] gSkip := ⟨pss_imp pss_nil fun Dn s H ⟨σ, F, E, R, q, k⟩ => k.nx σ s F H (Same.refl F) R q⟩
theorem sds_cons (h1 : SD B X st g) (h2 : SDs B X rest h) : SDs B X (st :: rest) (gSeq g h) :=
  ⟨pss_imp (pss_cons h1.run h2.run) fun Dn s H ⟨σ, F, E, R, q, k⟩ => ⟨σ, F, { E with nx := h E }, R, q, ⟨fun σ' s' F' H' e R' q' => ⟨σ', F', E, R', q', k.more e⟩, k.rt, k.bk, k.ct⟩⟩⟩
theorem sds_one (h1 : SD B X st g) : SDs B X [st] g := ⟨pss_one h1.run⟩
theorem sd_pass : SD B X (.Pass pos) gSkip := ⟨ps_imp ps_pass fun Dn s H ⟨σ, F, E, R, q, k⟩ => k.nx σ s F H (Same.refl F) R q⟩
theorem sd_break : SD B X (.Break pos) gBrk := ⟨ps_imp ps_break fun Dn s H ⟨σ, F, E, R, q, k⟩ => k.bk σ s F H (Same.refl F) R q⟩
theorem sd_continue : SD B X (.Continue pos) gCnt := ⟨ps_imp ps_continue fun Dn s H ⟨σ, F, E, R, q, k⟩ => k.ct σ s F H (Same.refl F) R q⟩
theorem sd_never : SD B X st gNever := ⟨⟨fun _ _ _ _ _ _ ⟨_, _, _, _, q, _⟩ => q.elim⟩⟩
theorem sd_drop (ha : BD B X e fa) (hs : swapsWith e none pos.line X.env = pure false := by rfl) : SD B X (.Expr e pos) (gDrop fa) :=
  ⟨ps_imp (ps_expr ha.run hs) fun Dn s H ⟨σ, F, E, R, q, k⟩ => ⟨σ, F, _, R, q, fun d qd F' H' v g dk r => k.nx σ s F' H' g.ff (R.grow g dk) qd⟩⟩
theorem sd_set {i : Nat} {x : Str} {pos' : Pos} (hN : X.N.Nodup) (hi : X.N[i]? = some x) (hx : Loc X.env.scope x) (ha : ED B X e fa) (hs : swapsWith e (some (.Name x pos')) pos.line X.env = pure false := by rfl) (hf : X.fn x = true ∨ X.env.scope.names.lookup x = some .local := by first | exact .inl rfl | exact .inr rfl | assumption) :
    SD B X (.Assign [.Name x pos'] e pos) (gSet i fa) :=
  ⟨ps_imp (ps_set hN hi hx ha.run hs hf) fun Dn s H ⟨σ, F, E, R, q, k⟩ => ⟨σ, F, _, R, q, fun d qd F' H' v g dk r => k.nx _ _ F' H' g.ff ((R.grow g dk).set r) qd⟩⟩
theorem sd_setL {i : Nat} {x : Str} {pos' : Pos} (hN : X.N.Nodup) (hi : X.N[i]? = some x) (hx : Loc X.env.scope x) (ha : FD B X e fs) (hs : swapsWith e (some (.Name x pos')) pos.line X.env = pure false := by rfl) (hf : X.fn x = true ∨ X.env.scope.names.lookup x = some .local := by first | exact .inl rfl | exact .inr rfl | assumption) :
    SD B X (.Assign [.Name x pos'] e pos) (gSetL i fs) :=
  ⟨ps_imp (ps_set hN hi hx ha.run hs hf) fun Dn s H ⟨σ, F, E, R, q, k⟩ => ⟨σ, F, _, R, q, fun ds qd F' H' p vs g dk hp fp ep r => k.nx _ _ F' H' g.ff (R.setNew (x := .ol ds) g dk hp fp ⟨rfl, vs, ep, r⟩) qd⟩⟩
theorem sd_ret (ha : ED B X e fa) : SD B X (.Return (some e) pos) (gRet fa) :=
  ⟨ps_imp (ps_ret ha.run) fun Dn s H ⟨σ, F, E, R, q, k⟩ => ⟨σ, F, _, R, q, fun d qd F' H' v g dk r => k.rt d v F' H' g.ff (R.base.trans g) dk r qd⟩⟩
theorem sd_retN : SD B X (.Return none pos) gRetN := ⟨ps_imp ps_retN fun Dn s H ⟨σ, F, E, R, q, k⟩ => k.rt .non _ F H (Same.refl F) R.base R.deck .non q⟩
theorem sd_if (hc : TD B X c ft) (h1 : SDs B X sts g) (h2 : SDs B X sts' h) : SD B X (.If c sts sts' pos) (gIfS ft g h) :=
  ⟨ps_imp (ps_if hc.run h1.run h2.run) fun Dn s H ⟨σ, F, E, R, q, k⟩ => ⟨σ, F, _, R, q, fun d qd F' H' g dk => by
    cases d with
    | true => exact ⟨σ, F', E, R.grow g dk, qd, k.more g.ff⟩
    | false => exact ⟨σ, F', E, R.grow g dk, qd, k.more g.ff⟩⟩⟩
theorem ls_fz {K : Kn} {i : Nat} {Dn : Ends} {s : L2.St} {H : Hp} (h : LS B K (gFz i g) Dn s H) : LS B K g Dn s H := by
  obtain ⟨σ, F, E, R, q, k⟩ := h
  unfold gFz fz at q
  split at q
  · rename_i xs e
    obtain ⟨a, vs, h1, h2, h3, h4, h5, h6⟩ := R.ownL e
    exact ⟨_, upd F a (.lst vs), E, R.freeze e h1 h2 h5 h6 h4 (.inl ⟨_, rfl⟩) (.lst upd_same (h3.mono (same_new h5))), q, k.more (same_new h5)⟩
  · rename_i xs e
    obtain ⟨a, vs, h1, h2, h3, h4, h5, h6⟩ := R.ownD e
    exact ⟨_, upd F a (.dK vs), E, R.freeze e h1 h2 h5 h6 h4 (.inr ⟨_, rfl⟩) (.dic upd_same (h3.mono (same_new h5))), q, k.more (same_new h5)⟩
  · exact ⟨σ, F, E, R, q, k⟩
theorem sd_fz (i : Nat) (h : SD B X st g) : SD B X st (gFz i g) := ⟨ps_imp h.run fun _ _ _ q => ls_fz q⟩

/-! ### several targets -/
/-- the slots is take the data ds -/
@[simp] def setAll : List Nat → List D → List SV → List SV
  | i :: is, d :: ds, σ => setAll is ds (σ.set i (.d d))
  | _, _, σ => σ
def setAllV : List Nat → List V → L2.St → L2.St
  | i :: is, v :: vs, s => setAllV is vs (s.set i (some v))
  | _, _, s => s
theorem Rel.sets {K : Kn} {F H : Hp} : ∀ {is : List Nat} {ds : List D} {vs : List V} {σ : List SV} {s : L2.St}, Rel B K σ s F H → Reps K F vs ds → Rel B K (setAll is ds σ) (setAllV is vs s) F H
  | [], ds, vs, σ, s, R, h => by
    cases ds <;> cases vs <;> exact R
  | i :: is, [], vs, σ, s, R, h => by
    cases h
    exact R
  | i :: is, d :: ds, vs, σ, s, R, h => by
    cases h with
    | @cons v vs _ _ r t =>
      show Rel B K (ND.setAll is ds (σ.set i (.d d))) (setAllV is vs (s.set i (some v))) F H
      exact Rel.sets (R.set r) t
def unT (n : Nat) (d : D) (Q : List D → Prop) : Prop := ∃ ds, d = .tup ds ∧ ds.length = n ∧ Q ds
@[simp] theorem unT_t (n : Nat) (b : List D) (Q : List D → Prop) : unT n (.tup b) Q ↔ b.length = n ∧ Q b := ⟨fun ⟨_, e, q⟩ => by cases e; exact q, fun q => ⟨b, rfl, q⟩⟩
@[simp] def gSetT (is : List Nat) (fa : GE) (E : Ed) (σ : List SV) : Prop := fa σ fun d => unT is.length d fun ds => E.nx (setAll is ds σ)
/-- targets: names in the slots is -/
structure NamesAt (X : Cx) (ts : List Expr) (is : List Nat) : Prop where
  run : PGs X ts fun vs σ H Q => vs.length = is.length ∧ Q (setAllV is vs σ) H
theorem na_nil : NamesAt X [] [] := ⟨⟨fun pins s σ H vs us Q I r h => by
  obtain ⟨h1, h2⟩ := h
  cases vs with
  | nil => exact pgs_nil.run pins s σ H [] us Q I r ⟨rfl, h2⟩
  | cons _ _ => simp at h1⟩⟩
theorem na_cons {i : Nat} {is : List Nat} {t : Expr} {ts : List Expr} (h1 : PG X t (gName i)) (h2 : NamesAt X ts is) (hs : (assignEach (t :: ts) X.env).map (·.2) = assign t X.env :: (assignEach ts X.env).map (·.2) := by rfl) : NamesAt X (t :: ts) (i :: is) := ⟨⟨fun pins s σ H vs us Q I r h => by
  obtain ⟨hl, hq⟩ := h
  cases vs with
  | nil => simp at hl
  | cons v vs => exact (pgs_cons h1 h2.run hs).run pins s σ H _ us Q I r ⟨v, vs, rfl, by simpa using hl, hq⟩⟩⟩
theorem sd_setT {is : List Nat} {ts : List Expr} {kt : Nat} {pt : Pos} (hc : X.calm = true) (hn : NamesAt X ts is) (ha : ED B X e fa) (hs : swapsWithSole [.Tuple ts kt pt] e pos.line X.env = pure false := by rfl) (hw : swappedStores [.Tuple ts kt pt] e X.env = pure none := by rfl)
    (h1 : (assignEach [.Tuple ts kt pt] X.env).map (·.2) = [assign (.Tuple ts kt pt) X.env] := by rfl) (hl : (assignEach ts X.env).length = is.length := by rfl) (hst : (assignEach ts X.env).findIdx? (·.1) = none := by rfl) :
    SD B X (.Assign [.Tuple ts kt pt] e pos) (gSetT is fa) :=
  ⟨ps_imp (ps_asg ha.run (pg_tup hc hn.run hl hst) hs hw h1) fun Dn s H ⟨σ, F, E, R, q, k⟩ => ⟨σ, F, _, R, q, fun d ⟨ds, e, hl, qd⟩ F' H' v g dk r => by
    subst e
    cases r with
    | tup h r => exact ⟨_, _, rfl, same_t g.fh h, by rw [r.length]; exact hl, by rw [r.length]; exact hl, k.nx _ _ F' H' g.ff ((R.grow g dk).sets r) qd⟩⟩⟩
/-- a, b = x, y with plain local names -/
@[simp] def gPar (is : List Nat) (fs : GA) (E : Ed) (σ : List SV) : Prop := fs σ fun ds => ds.length = is.length ∧ E.nx (setAll is ds σ)
theorem sd_par2 {i j : Nat} {x y : Str} {px py pt : Pos} {kt k2 pt2} (hc : X.calm = true) (hN : X.N.Nodup) (hi : X.N[i]? = some x) (hj : X.N[j]? = some y) (hij : i ≠ j)
    (hx : X.env.scope.names.lookup x = some .local) (hy : X.env.scope.names.lookup y = some .local) (ha : AD B X [a, b] fs)
    (hw : swappedStores [.Tuple [.Name x px, .Name y py] kt pt] (.Tuple [a, b] k2 pt2) X.env = pure (some [x, y]))
    (hs : swapsWithSole [.Tuple [.Name x px, .Name y py] kt pt] (.Tuple [a, b] k2 pt2) pos.line X.env = pure false := by rfl) :
    SD B X (.Assign [.Tuple [.Name x px, .Name y py] kt pt] (.Tuple [a, b] k2 pt2) pos) (gPar [i, j] fs) :=
  ⟨ps_imp (ps_par hc hN hi hj hij hx hy ha.run hw hs) fun Dn s H ⟨σ, F, E, R, q, k⟩ => ⟨σ, F, _, R, q, fun ds ⟨hl, qd⟩ F' H' vs g dk r => by
    have R2 := (R.grow g dk).sets (is := [i, j]) r
    cases r with
    | nil => simp at hl
    | cons r1 r =>
      cases r with
      | nil => simp at hl
      | cons r2 r =>
        cases r with
        | cons _ _ => simp at hl
        | nil => exact ⟨_, _, rfl, k.nx _ _ F' H' g.ff R2 qd⟩⟩⟩
theorem sd_par3 {i j l : Nat} {x y z : Str} {px py pz pt : Pos} {kt k2 pt2} (hc : X.calm = true) (hN : X.N.Nodup) (hi : X.N[i]? = some x) (hj : X.N[j]? = some y) (hl : X.N[l]? = some z) (hij : i ≠ j) (hil : i ≠ l) (hjl : j ≠ l)
    (hx : X.env.scope.names.lookup x = some .local) (hy : X.env.scope.names.lookup y = some .local) (hz : X.env.scope.names.lookup z = some .local) (ha : AD B X [a, b, c] fs)
    (hw : swappedStores [.Tuple [.Name x px, .Name y py, .Name z pz] kt pt] (.Tuple [a, b, c] k2 pt2) X.env = pure (some [x, y, z]))
    (hs : swapsWithSole [.Tuple [.Name x px, .Name y py, .Name z pz] kt pt] (.Tuple [a, b, c] k2 pt2) pos.line X.env = pure false := by rfl) :
    SD B X (.Assign [.Tuple [.Name x px, .Name y py, .Name z pz] kt pt] (.Tuple [a, b, c] k2 pt2) pos) (gPar [i, j, l] fs) :=
  ⟨ps_imp (ps_par3 hc hN hi hj hl hij hil hjl hx hy hz ha.run hw hs) fun Dn s H ⟨σ, F, E, R, q, k⟩ => ⟨σ, F, _, R, q, fun ds ⟨hl, qd⟩ F' H' vs g dk r => by
    have R2 := (R.grow g dk).sets (is := [i, j, l]) r
    cases r with
    | nil => simp at hl
    | cons r1 r =>
      cases r with
      | nil => simp at hl
      | cons r2 r =>
        cases r with
        | nil => simp at hl
        | cons r3 r =>
          cases r with
          | cons _ _ => simp at hl
          | nil => exact ⟨_, _, _, rfl, k.nx _ _ F' H' g.ff R2 qd⟩⟩⟩

/-! ### x op= e; xs[i] = e; xs.append(e) -/
def gAug (i : Nat) (gop : D → D → (D → Prop) → Prop) (fa : GE) : GS := fun E σ => ∃ x, σ[i]? = some (.d x) ∧ fa σ fun y => gop x y fun z => E.nx (σ.set i (.d z))
theorem sd_aug {i : Nat} {x : Str} {op : Operator} {gop : D → D → (D → Prop) → Prop} {pos' : Pos} (hN : X.N.Nodup) (hi : X.N[i]? = some x) (hx : Loc X.env.scope x) (ha : BD B X e fa) (ho : OpR X (inplaceOp op) (LO2 B X.kn gop)) (hf : X.fn x = true ∨ X.env.scope.names.lookup x = some .local := by first | exact .inl rfl | exact .inr rfl | assumption) :
    SD B X (.AugAssign (.Name x pos') op e pos) (gAug i gop fa) :=
  ⟨ps_imp (ps_aug hN hi hx ha.run (ti := LO2 B X.kn gop) ho hf) fun Dn s H ⟨σ, F, E, R, ⟨y, e1, q⟩, k⟩ => by
    obtain ⟨v, h1, h2⟩ := R.dat e1
    exact ⟨v, h1, σ, F, _, R, q, fun d qd F' H' u g dk r => ⟨F', y, d, _, g.fh, dk, .inl (h2.mono g.ff), r, qd, fun z qz F2 H2 w g2 dk2 r2 => k.nx _ _ F2 H2 (g.ff.trans g2.ff) ((R.grow (g.trans g2) dk2).set r2) qz⟩⟩⟩
def iaddD : D → D → (D → Prop) → Prop
  | .int i, .int j, Q => Q (.int (i + j))
  | .str i, .str j, Q => i.length + j.length ≤ sizeLine ∧ Q (.str (i ++ j))
  | _, _, _ => False
theorem o_iadd : OpR X (inplaceOp .Add) (LO2 B X.kn iaddD) := opR_by fun v u H Q ⟨F, x, y, Qd, e, dk, r1, r2, q, k⟩ => by
  unfold iaddD at q
  split at q
  · exact ⟨_, iop_add, _, _, r1.int, r2.int, k.here e dk q (.int _)⟩
  · exact ⟨_, iop_add_str, _, _, r1.str, r2.str, q.1, k.here e dk q.2 (.str _)⟩
  · exact q.elim
theorem o_isub : OpR X (inplaceOp .Sub) (LO2 B X.kn subD) := opR_by fun v u H Q ⟨F, x, y, Qd, e, dk, r1, r2, q, k⟩ => by
  unfold subD at q
  split at q
  · exact ⟨_, iop_sub, _, _, r1.int, r2.int, k.here e dk q (.int _)⟩
  · exact q.elim
/-- xs[i] = e, xs of one's own -/
def gSetI (k : Nat) (fe fi : GE) : GS := fun E σ => ∃ xs, σ[k]? = some (.ol xs) ∧ fe σ fun x => fi σ fun d => ∃ i j, d = .int i ∧ ixN xs.length i = some j ∧ E.nx (σ.set k (.ol (xs.set j x)))
theorem sd_setI {k : Nat} {x : Str} {i : Expr} {px pt : Pos} {fe fi : GE} (hv : PE X (.Name x px) (tVar k)) (he : ED B X e fe) (hi : BD B X i fi) (hs : swapsWithSole [.Subscript (.Name x px) i pt] e pos.line X.env = pure false := by rfl) (hw : swappedStores [.Subscript (.Name x px) i pt] e X.env = pure none := by rfl)
    (h1 : (assignEach [.Subscript (.Name x px) i pt] X.env).map (·.2) = [assign (.Subscript (.Name x px) i pt) X.env] := by rfl)
    (ha : ∀ v, assign (.Subscript (.Name x px) i pt) X.env v = (do
      let ov ← holding [v] (eval (.Name x px) X.env)
      let iv ← holding [v, ov] (eval i X.env)
      standAt pt
      holding [v, ov, iv] (setItem ov iv v)
      release [v, ov, iv] []) := by intro _; rfl) : SD B X (.Assign [.Subscript (.Name x px) i pt] e pos) (gSetI k fe fi) :=
  ⟨ps_imp (ps_asg he.run (pg_sub hv hi.run set_list ha) hs hw h1) fun Dn s H ⟨σ, F, E, R, ⟨xs, eo, q⟩, kk⟩ => by
    obtain ⟨a, _, s1, _⟩ := R.ownL eo
    exact ⟨σ, F, _, R, q, fun d qd F1 H1 v g1 d1 r1 => ⟨.ref a, s1, σ, F1, _, R.grow g1 d1, qd, fun d2 ⟨i, j, e2, hj, qn⟩ F2 H2 u g2 dk2 r2 => by
      subst e2
      have R2 := R.grow (g1.trans g2) dk2
      obtain ⟨a', vs, s2, h2, h3, h4, h5, h6⟩ := R2.ownL eo
      rw [s1] at s2
      cases s2
      refine ⟨a, vs, i, j, rfl, r2.int, h2, by rw [h3.length]; exact hj, ?_⟩
      exact kk.nx _ _ F2 _ (g1.ff.trans g2.ff) (R2.write eo (.inl ⟨_, rfl⟩) s1 (x := .ol (xs.set j d)) ⟨rfl, _, upd_same, h3.set (r1.mono g2.ff) j⟩) qn⟩⟩⟩
/-- xs[i] op= e, ints -/
theorem getItem_lst {X : Cx} : PGet X (rIxL X.K) := fun pins s σ H o i ov iv Q I eo ei ⟨a, xs, k, z, ea, ek, stands, found, q⟩ => by
  subst ea ek
  obtain ⟨t, rfl⟩ := ei
  cases eo
  obtain ⟨its, same, plain, _⟩ := I.list stands
  obtain ⟨j, place, item, _, low, high⟩ := atI_get found
  obtain ⟨w, ew, is⟩ := same.get item
  have cnt := same.length
  have top := line63
  have at_j : its.toArray[j]? = some w := by simpa using ew
  rcases Int.lt_or_le k 0 with neg | pos
  · rw [seqIndex_neg neg low] at place
    have e : (k + (its.toArray.size : Int)).toNat = j := by
      rw [List.size_toArray, ← cnt]
      exact Option.some.inj place
    exact wpAny_getItem_list_neg plain.isList neg (by rw [List.size_toArray] <;> omega) (by omega) (e ▸ at_j) ⟨z, H, I, is, q⟩
  · rw [seqIndex_of pos high] at place
    exact wpAny_getItem_list plain.isList pos (by omega) (Option.some.inj place ▸ at_j) ⟨z, H, I, is, q⟩
def gAugI (k : Nat) (gop : D → D → (D → Prop) → Prop) (fi fe : GE) : GS := fun E σ => ∃ xs, σ[k]? = some (.ol xs) ∧ fi σ fun d => ∃ i j x, d = .int i ∧ ixN xs.length i = some j ∧ xs[j]? = some x ∧ fe σ fun y => gop x y fun z => E.nx (σ.set k (.ol (xs.set j z)))
theorem sd_augI {k : Nat} {x : Str} {i : Expr} {op : Operator} {gop : D → D → (D → Prop) → Prop} {px pt : Pos} {fe fi : GE} (hv : PE X (.Name x px) (tVar k)) (hi : BD B X i fi) (he : BD B X e fe) (ho : OpR X (inplaceOp op) (LO2 B X.kn gop))
    (ha : ∀ ov iv new, augStore i ov iv new = (do holding [new, ov, iv] (setItem ov iv new); release [new, ov, iv] []; pure .next) := by intros; rfl) : SD B X (.AugAssign (.Subscript (.Name x px) i pt) op e pos) (gAugI k gop fi fe) :=
  ⟨ps_imp (ps_augS hv hi.run getItem_lst he.run (tip := LO2 B X.kn gop) ho set_list ha) fun Dn s H ⟨σ, F, E, R, ⟨xs, eo, q⟩, kk⟩ => by
    obtain ⟨a, _, s1, _⟩ := R.ownL eo
    refine ⟨.ref a, s1, σ, F, _, R, q, fun d1 ⟨i, j, z, e1, hj, hz, q1⟩ F1 H1 u g1 d1 r1 => ?_⟩
    subst e1
    have R1 := R.grow g1 d1
    obtain ⟨a', vs, s2, h2, h3, h4, h5, h6⟩ := R1.ownL eo
    rw [s1] at s2
    cases s2
    obtain ⟨zv, hzv, rz⟩ := h3.get hz
    have hat : L2.atI vs i = some zv := by
      unfold L2.atI
      rw [h3.length, hj]
      exact hzv
    refine ⟨a, vs, i, zv, rfl, r1.int, SqL.of h2, hat, σ, F1, _, R1, q1, fun y qy F2 H2 w g2 dk2 r2 => ?_⟩
    refine ⟨F2, z, y, _, g2.fh, dk2, .inl (rz.mono g2.ff), r2, qy, fun z' qz F3 H3 w3 g3 dk3 r3 => ?_⟩
    have R3 := R1.grow (g2.trans g3) dk3
    obtain ⟨a', vs3, s3, k2, k3, k4, k5, k6⟩ := R3.ownL eo
    rw [s1] at s3
    cases s3
    refine ⟨a, vs3, i, j, rfl, r1.int, k2, by rw [k3.length]; exact hj, ?_⟩
    exact kk.nx _ _ F3 _ ((g1.ff.trans g2.ff).trans g3.ff) (R3.write eo (.inl ⟨_, rfl⟩) s1 (x := .ol (xs.set j z')) ⟨rfl, _, upd_same, k3.set r3 j⟩) qz⟩
/-- xs.append(e) -/
def gApp (k : Nat) (fe : GE) : GS := fun E σ => ∃ xs, σ[k]? = some (.ol xs) ∧ fe σ fun x => xs.length < sizeLine ∧ E.nx (σ.set k (.ol (xs ++ [x])))
theorem sd_app {k : Nat} {x : Str} {px apos cpos : Pos} {fe : GE} (h : PE X (.Call (.Attribute (.Name x px) "append" apos) [e] [] cpos) (tBM X.K "list" rAppend (tVar k) (tCons (LE B X.kn fe) tNil))) (hs : swapsWith (.Call (.Attribute (.Name x px) "append" apos) [e] [] cpos) none pos.line X.env = pure false := by rfl) :
    SD B X (.Expr (.Call (.Attribute (.Name x px) "append" apos) [e] [] cpos) pos) (gApp k fe) :=
  ⟨ps_imp (ps_expr h hs) fun Dn s H ⟨σ, F, E, R, ⟨xs, eo, q⟩, kk⟩ => by
    obtain ⟨a, _, s1, h1, _⟩ := R.ownL eo
    refine ⟨.ref a, s1, .inl ⟨rfl, _, .inl (.inl h1)⟩, σ, F, _, R, q, fun d ⟨hz, qd⟩ F1 H1 v g1 d1 r1 => ?_⟩
    have R1 := R.grow g1 d1
    obtain ⟨a', vs, s2, h2, h3, h4, h5, h6⟩ := R1.ownL eo
    rw [s1] at s2
    cases s2
    exact ⟨a, vs, v, rfl, rfl, h2, by rw [h3.length]; exact hz, kk.nx _ _ F1 _ g1.ff (R1.write eo (.inl ⟨_, rfl⟩) s1 (x := .ol (xs ++ [d])) ⟨rfl, _, upd_same, h3.append (.cons r1 .nil)⟩) qd⟩⟩

/-! ### while -/
/-- an invariant with a measure -/
def gWhile (ft : GT) (g : GS) : GS := fun E σ => ∃ I : Nat → List SV → Prop, (∃ m, I m σ) ∧ ∀ m σ', I m σ' → ft σ' fun b => if b = true then g { E with nx := fun σ2 => ∃ m', m' < m ∧ I m' σ2, ct := fun σ2 => ∃ m', m' < m ∧ I m' σ2, bk := E.nx } σ' else E.nx σ'
theorem sd_while (hp : PassesOwn (model X.prog X.w) X.A X.env X.xe) (hc : TD B X c ft) (hb : SDs B X sts g) : SD B X (.While c sts [] pos) (gWhile ft g) :=
  ⟨ps_imp (ps_while hp hc.run hb.run) fun Dn s H ⟨σ, F, E, R, ⟨I, ⟨m0, h0⟩, q⟩, kk⟩ => by
    refine ⟨fun m s' H' => ∃ σ' F', Same F F' ∧ Rel B X.kn σ' s' F' H' ∧ I m σ', ⟨m0, σ, F, Same.refl F, R, h0⟩, ?_⟩
    rintro m s' H' ⟨σ', F', e', R', i'⟩
    refine ⟨σ', F', _, R', q m σ' i', fun b qb F2 H2 g2 dk2 => ?_⟩
    have R2 := R'.grow g2 dk2
    cases b with
    | true =>
      refine ⟨fun s3 H3 => ∃ σ3 F3, Same F F3 ∧ Rel B X.kn σ3 s3 F3 H3 ∧ ∃ m', m' < m ∧ I m' σ3, ?_, σ', F2, _, R2, qb, ?_⟩
      · rintro s3 H3 ⟨σ3, F3, e3, R3, m', hm, i3⟩
        exact ⟨m', hm, σ3, F3, e3, R3, i3⟩
      · have eF := e'.trans g2.ff
        exact ⟨fun σ3 s3 F3 H3 a r q3 => ⟨σ3, F3, eF.trans a, r, q3⟩, fun d v F3 H3 a => kk.rt d v F3 H3 (eF.trans a), fun σ3 s3 F3 H3 a r q3 => kk.nx σ3 s3 F3 H3 (eF.trans a) r q3, fun σ3 s3 F3 H3 a r q3 => ⟨σ3, F3, eF.trans a, r, q3⟩⟩
    | false => exact kk.nx σ' s' F2 H2 (e'.trans g2.ff) R2 qb⟩

/-! ### for -/
/-- J gives the items ds -/
structure ItOk (B : Bs) (K : Kn) (J : It) (ds : List D) (F : Hp) : Prop where
  go : ∀ (F' H' : Hp) i d, Same F F' → Same F' H' → DeckIn B.W F' H' → ds[i]? = some d → J.go i H' ∧ ∀ x H'', J.yld i H' x H'' → ∃ F'', Grow B.W F' H' F'' H'' ∧ DeckIn B.W F'' H'' ∧ Rep K F'' x d
  stop : ∀ (F' H' : Hp) i, Same F F' → Same F' H' → ds.length ≤ i → J.stop i H'
def LI (B : Bs) (K : Kn) (f : GA) : TI := fun s H R => ∃ σ F Qd, Rel B K σ s F H ∧ f σ Qd ∧ ∀ ds, Qd ds → ∀ F' H' J, Grow B.W F H F' H' → DeckIn B.W F' H' → ItOk B K J ds F' → R J H'
structure PID (B : Bs) (X : Cx) (tg iter : Expr) (f : GA) : Prop where
  run : PI X tg iter (LI B X.kn f)
theorem pi_imp {tg : Expr} {t t' : TI} (h : PI X tg e t) (w : ∀ s H R, t' s H R → t s H R) : PI X tg e t' := ⟨fun pins s σ H R I q => h.run pins s σ H R I (w _ _ _ q)⟩
theorem itOk_list {K : Kn} {a : Addr} {vs : List V} {ds : List D} {F : Hp} (h : F a = some (.lst vs)) (r : Reps K F vs ds) : ItOk B K (Itl K.K a) ds F := by
  refine ⟨fun F' H' i d e1 e2 dk hd => ?_, fun F' H' i e1 e2 hi => ⟨vs, SqL.of (e2 _ _ (e1 _ _ h)), by rw [r.length]; exact hi⟩⟩
  have ha : H' a = some (.lst vs) := e2 _ _ (e1 _ _ h)
  obtain ⟨v, hv, rv⟩ := r.get hd
  refine ⟨⟨vs, v, SqL.of ha, hv⟩, fun x H'' ⟨e, f⟩ => ?_⟩
  subst e
  have := f vs (SqL.of ha)
  rw [hv] at this
  cases this
  exact ⟨F', Grow.refl e2, dk, rv.mono e1⟩
theorem itOk_tup {K : Kn} {a : Addr} {vs : List V} {ds : List D} {F : Hp} (h : SqT K.K F a vs) (r : Reps K F vs ds) : ItOk B K (Itt K.K a) ds F := by
  refine ⟨fun F' H' i d e1 e2 dk hd => ?_, fun F' H' i e1 e2 hi => ⟨vs, same_t e2 (same_t e1 h), by rw [r.length]; exact hi⟩⟩
  have ha : SqT K.K H' a vs := same_t e2 (same_t e1 h)
  obtain ⟨v, hv, rv⟩ := r.get hd
  refine ⟨⟨vs, v, ha, hv⟩, fun x H'' ⟨e, f⟩ => ?_⟩
  subst e
  have := f vs ha
  rw [hv] at this
  cases this
  exact ⟨F', Grow.refl e2, dk, rv.mono e1⟩
def intsFrom (lo : Int) (n : Nat) : List D := (List.range n).map fun (i : Nat) => D.int (lo + (i : Int))
theorem itOk_range {K : Kn} {lo : Int} {n : Nat} {F : Hp} : ItOk B K (Itr lo n) (intsFrom lo n) F := by
  refine ⟨fun F' H' i d e1 e2 dk hd => ?_, fun F' H' i e1 e2 hi => by (show n ≤ i); simpa [intsFrom] using hi⟩
  unfold intsFrom at hd
  rw [List.getElem?_map] at hd
  have hi : i < n := by
    have := (List.getElem?_eq_some_iff.mp (Option.map_eq_some_iff.mp hd).choose_spec.1).1
    simpa using this
  refine ⟨hi, fun x H'' ⟨e, f⟩ => ?_⟩
  subst e f
  rw [List.getElem?_range hi] at hd
  cases hd
  exact ⟨F', Grow.refl e2, dk, .int _⟩
/-- for x in e, e data: a list, a tuple -/
@[simp] def gIter (fa : GE) (σ : List SV) (Q : List D → Prop) : Prop := fa σ fun d => match d with | .tup xs => Q xs | .lst xs => Q xs | _ => False
theorem pid_data {tg : Expr} (ha : ED B X e fa) : PID B X tg e (gIter fa) := ⟨⟨fun pins s σv H R I ⟨σ, F, Qd, Rl, q, k⟩ => by
  refine thn (ha.run.run pins s σv H (fun v H1 => ∃ d F1, Grow B.W F H F1 H1 ∧ DeckIn B.W F1 H1 ∧ Rep X.kn F1 v d ∧ match d with | .tup xs => Qd xs | .lst xs => Qd xs | _ => False) I ⟨σ, F, _, Rl, q, fun d qd F1 H1 v g1 d1 r1 => ⟨d, F1, g1, d1, r1, qd⟩⟩) fun v s1 ⟨x, H1, I1, r1, d, F1, g1, d1, rd, qd⟩ => ?_
  cases rd with
  | tup h r =>
    cases r1
    obtain ⟨its, rv, p, hz⟩ := I1.tuple (same_t g1.fh h)
    refine wpAny_pyIter_tuple (show s1.heap.IsTuple _ its.toArray from p) ?_
    refine ⟨s1.heap.objs.size, [s1.heap.objs.size], _, _, H1, rfl, I1.kept (t' := s1.toks) fun b o e => Heap.get?_push_of_some _ e, turn_tuple _ _, ⟨_, Heap.get?_push_size _ rfl, rfl, rfl⟩, fun b hb => ?_, k _ qd F1 H1 _ g1 d1 (itOk_tup h r)⟩
    have e : b = s1.heap.objs.size := by simpa using hb
    subst e
    exact I1.fpOk (Nat.le_refl _) (I1.hok.fresh (Nat.le_refl _))
  | lst h r =>
    cases r1
    obtain ⟨its, rv, p, hz⟩ := I1.list (SqL.of (g1.fh _ _ h))
    refine wpAny_pyIter_list p.isList ?_
    refine ⟨s1.heap.objs.size, [s1.heap.objs.size], _, _, H1, rfl, I1.kept (t' := s1.toks) fun b o e => Heap.get?_push_of_some _ e, turn_list _ _, ⟨_, Heap.get?_push_size _ rfl, rfl, rfl⟩, fun b hb => ?_, k _ qd F1 H1 _ g1 d1 (itOk_list h r)⟩
    have e : b = s1.heap.objs.size := by simpa using hb
    subst e
    exact I1.fpOk (Nat.le_refl _) (I1.hok.fresh (Nat.le_refl _))
  | _ => exact False.elim qd⟩⟩
/-- range(n), range(a, b) -/
def rng1D (ds : List D) (Q : List D → Prop) : Prop := ∃ j, ds = [.int j] ∧ -(2 ^ 62) ≤ j ∧ j < 2 ^ 62 ∧ Q (intsFrom 0 j.toNat)
@[simp] theorem rng1D_i (j : Int) (Q : List D → Prop) : rng1D [.int j] Q ↔ -(2 ^ 62) ≤ j ∧ j < 2 ^ 62 ∧ Q (intsFrom 0 j.toNat) := ⟨fun ⟨_, e, q⟩ => by cases e; exact q, fun q => ⟨j, rfl, q⟩⟩
def rng2D (ds : List D) (Q : List D → Prop) : Prop := ∃ i j, ds = [.int i, .int j] ∧ (-(2 ^ 62) ≤ i ∧ i < 2 ^ 62 ∧ -(2 ^ 62) ≤ j ∧ j < 2 ^ 62) ∧ Q (intsFrom i (j - i).toNat)
@[simp] theorem rng2D_i (i j : Int) (Q : List D → Prop) : rng2D [.int i, .int j] Q ↔ (-(2 ^ 62) ≤ i ∧ i < 2 ^ 62 ∧ -(2 ^ 62) ≤ j ∧ j < 2 ^ 62) ∧ Q (intsFrom i (j - i).toNat) := ⟨fun ⟨_, _, e, q⟩ => by cases e; exact q, fun q => ⟨i, j, rfl, q⟩⟩
@[simp] def gRng1 (fs : GA) (σ : List SV) (Q : List D → Prop) : Prop := fs σ fun ds => rng1D ds Q
@[simp] def gRng2 (fs : GA) (σ : List SV) (Q : List D → Prop) : Prop := fs σ fun ds => rng2D ds Q
theorem pid_rng1 {tg : Expr} {p : Pos} {fs : GA} (hg : Gl X "range") (hm : X.mg "range" = none) (ha : AD B X [a] fs) (hs : starEach [a] X.env = [(false, eval a X.env)] := by rfl) : PID B X tg (.Call (.Name "range" p) [a] [] pos) (gRng1 fs) :=
  ⟨pi_imp (pi_range1 hg hm ha.run hs) fun s H R ⟨σ, F, Qd, Rl, q, k⟩ => ⟨σ, F, _, Rl, q, fun ds ⟨j, e, h1, h2, qd⟩ F1 H1 vs g1 d1 r1 => by
    subst e
    cases r1 with
    | cons r t =>
      cases r
      cases t
      exact ⟨j, rfl, h1, h2, k _ qd F1 H1 _ g1 d1 itOk_range⟩⟩⟩
theorem pid_rng2 {tg : Expr} {p : Pos} {fs : GA} (hg : Gl X "range") (hm : X.mg "range" = none) (ha : AD B X [a, b] fs) (hs : starEach [a, b] X.env = [(false, eval a X.env), (false, eval b X.env)] := by rfl) (hs2 : starEach [b] X.env = [(false, eval b X.env)] := by rfl) : PID B X tg (.Call (.Name "range" p) [a, b] [] pos) (gRng2 fs) :=
  ⟨pi_imp (pi_range2 hg hm ha.run hs hs2) fun s H R ⟨σ, F, Qd, Rl, q, k⟩ => ⟨σ, F, _, Rl, q, fun ds ⟨i, j, e, h1, qd⟩ F1 H1 vs g1 d1 r1 => by
    subst e
    cases r1 with
    | cons r t =>
      cases r
      cases t with
      | cons r t =>
        cases r
        cases t
        exact ⟨i, j, rfl, h1, k _ qd F1 H1 _ g1 d1 itOk_range⟩⟩⟩
/-- the target of a for: a name, a tuple of names -/
abbrev GG := D → List SV → (List SV → Prop) → Prop
structure GD (B : Bs) (X : Cx) (tg : Expr) (gt : GG) : Prop where
  run : ∃ t, PG X tg t ∧ ∀ d v σ s F H (Qd : List SV → Prop) (Q : L2.St → Hp → Prop), Rel B X.kn σ s F H → Rep X.kn F v d → gt d σ Qd → (∀ σ' s', Rel B X.kn σ' s' F H → Qd σ' → Q s' H) → t v s H Q
@[simp] def ggName (i : Nat) (d : D) (σ : List SV) (Q : List SV → Prop) : Prop := Q (σ.set i (.d d))
@[simp] def ggTup (is : List Nat) (d : D) (σ : List SV) (Q : List SV → Prop) : Prop := unT is.length d fun ds => Q (setAll is ds σ)
theorem gd_name {i : Nat} {x : Str} (h : PG X (.Name x pos) (gName i)) : GD B X (.Name x pos) (ggName i) := ⟨_, h, fun d v σ s F H Qd Q R r q k => k _ _ (R.set r) q⟩
theorem gd_tup {is : List Nat} {ts : List Expr} {kt : Nat} (hc : X.calm = true) (hn : NamesAt X ts is) (hl : (assignEach ts X.env).length = is.length := by rfl) (hst : (assignEach ts X.env).findIdx? (·.1) = none := by rfl) : GD B X (.Tuple ts kt pos) (ggTup is) :=
  ⟨_, pg_tup hc hn.run hl hst, fun d v σ s F H Qd Q R r ⟨ds, e, hl, q⟩ k => by
    subst e
    cases r with
    | tup h r => exact ⟨_, _, rfl, same_t R.ex h, by rw [r.length]; exact hl, by rw [r.length]; exact hl, k _ _ (R.sets r) q⟩⟩
def forG (gt : GG) (g : GS) : List D → Ed → List SV → Prop
  | [], E, σ => E.nx σ
  | d :: ds, E, σ => gt d σ fun σ' => g { E with nx := forG gt g ds E, ct := forG gt g ds E, bk := E.nx } σ'
@[simp] def gFor (fi : GA) (gt : GG) (g : GS) (E : Ed) (σ : List SV) : Prop := fi σ fun ds => forG gt g ds E σ
theorem sd_for {tg iter : Expr} {fi : GA} {gt : GG} (hp : PassesOwn (model X.prog X.w) X.A X.env X.xe) (hc : X.calm = true) (hi : PID B X tg iter fi) (hg : GD B X tg gt) (hb : SDs B X sts g) (hs : ∀ x, foldedSetIterable iter X.env x = pure x := by intro _; rfl) : SD B X (.For tg iter sts [] pos) (gFor fi gt g) := by
  obtain ⟨t, ht, hgt⟩ := hg.run
  refine ⟨ps_imp (ps_for hp hc hi.run ht hb.run hs) fun Dn s H ⟨σ, F, E, R, q, kk⟩ => ⟨σ, F, _, R, q, fun ds qd F1 H1 J g1 d1 ok => ?_⟩⟩
  have R1 := R.grow g1 d1
  refine ⟨fun i m s' H' => m = ds.length - i ∧ ∃ σ' F', Same F1 F' ∧ Rel B X.kn σ' s' F' H' ∧ forG gt g (ds.drop i) E σ', ⟨ds.length, rfl, σ, F1, Same.refl F1, R1, by simpa using qd⟩, ?_⟩
  rintro i m s' H' ⟨rfl, σ', F', e', R', q'⟩
  by_cases hlt : i < ds.length
  · obtain ⟨hgo, hy⟩ := ok.go F' H' i ds[i] e' R'.ex R'.deck (by simp [hlt])
    rw [List.drop_eq_getElem_cons hlt] at q'
    refine .inr ⟨hgo, fun s3 H3 => ∃ σ3 F3, Same F1 F3 ∧ Rel B X.kn σ3 s3 F3 H3 ∧ forG gt g (ds.drop (i + 1)) E σ3, fun s3 H3 z => ⟨ds.length - (i + 1), by omega, rfl, z⟩, fun x H2 hx => ?_⟩
    obtain ⟨F2, g2, d2, r2⟩ := hy x H2 hx
    have R2 := R'.grow g2 d2
    refine hgt ds[i] x σ' s' F2 H2 _ _ R2 r2 q' fun σ3 s3 R3 q3 => ⟨σ3, F2, _, R3, q3, ?_⟩
    have eF := e'.trans g2.ff
    exact ⟨fun σ4 s4 F4 H4 a r q4 => ⟨σ4, F4, eF.trans a, r, q4⟩, fun d v F4 H4 a => kk.rt d v F4 H4 (g1.ff.trans (eF.trans a)), fun σ4 s4 F4 H4 a r q4 => kk.nx σ4 s4 F4 H4 (g1.ff.trans (eF.trans a)) r q4, fun σ4 s4 F4 H4 a r q4 => ⟨σ4, F4, eF.trans a, r, q4⟩⟩
  · rw [List.drop_eq_nil_of_le (by omega)] at q'
    exact .inl ⟨ok.stop F' H' i e' R'.ex (by omega), kk.nx σ' s' F' H' (g1.ff.trans e') R' q'⟩
end
end ND

/-! ND6: comprehensions, built-in functions -/
namespace ND
open PySem PySem.Spec L2
open PyProof.Rows (envOfC)

/-! ### lists by comprehension -/
@[simp] def wipeD (σ : List SV) : List Nat → List SV
  | [] => σ
  | v :: vs => (wipeD σ vs).set v .no
theorem Rel.wipe {B : Bs} {K : Kn} {σ : List SV} {s : L2.St} {F H : Hp} (R : Rel B K σ s F H) : ∀ vs : List Nat, Rel B K (wipeD σ vs) (L2.wipe s vs) F H
  | [] => R
  | v :: vs => (Rel.wipe R vs).drop
theorem set_set_ne {α : Type} {l : List α} {i j : Nat} {a b : α} (h : i ≠ j) : (l.set i a).set j b = (l.set j b).set i a := List.set_comm a b h
theorem wipe_set {s : L2.St} {i : Nat} {v : Option V} : ∀ {vs : List Nat}, i ∈ vs → L2.wipe (s.set i v) vs = L2.wipe s vs
  | w :: vs, h => by
    unfold L2.wipe
    by_cases e : i ∈ vs
    · rw [wipe_set e]
    · have e2 : i = w := by
        rcases List.mem_cons.mp h with h | h
        · exact h
        · exact absurd h e
      subst e2
      have key : ∀ (us : List Nat), i ∉ us → L2.wipe (s.set i v) us = (L2.wipe s us).set i v := by
        intro us
        induction us with
        | nil => intro _; rfl
        | cons u us ih =>
          intro hu
          unfold L2.wipe
          rw [ih (fun z => hu (List.mem_cons_of_mem _ z)), set_set_ne (fun z => hu (by rw [z]; exact List.mem_cons_self))]
      rw [key vs e, List.set_set]
theorem wipe_idem (s : L2.St) : ∀ vs : List Nat, L2.wipe (L2.wipe s vs) vs = L2.wipe s vs := by
  have key : ∀ (ws vs : List Nat), (∀ i ∈ ws, i ∈ vs) → L2.wipe (L2.wipe s ws) vs = L2.wipe s vs := by
    intro ws
    induction ws with
    | nil => intro vs _; rfl
    | cons w ws ih =>
      intro vs h
      show L2.wipe ((L2.wipe s ws).set w none) vs = _
      rw [wipe_set (h w List.mem_cons_self)]
      exact ih vs fun i hi => h i (List.mem_cons_of_mem _ hi)
  exact fun vs => key vs vs fun _ h => h
theorem wipe_sets {own : List Nat} : ∀ {is : List Nat} {vs : List V} {s : L2.St}, (∀ i ∈ is, i ∈ own) → L2.wipe (setAllV is vs s) own = L2.wipe s own
  | [], _, _, _ => rfl
  | _ :: _, [], _, _ => rfl
  | i :: is, v :: vs, s, h => by
    show L2.wipe (setAllV is vs (s.set i (some v))) own = _
    rw [wipe_sets fun j hj => h j (List.mem_cons_of_mem _ hj), wipe_set (h i List.mem_cons_self)]
/-- a comprehension's target -/
structure CTg (B : Bs) (K : Kn) (own : List Nat) (t : TG) (gt : GG) : Prop where
  run : ∀ d v σ s F H (Qd : List SV → Prop) (Q : L2.St → Hp → Prop), Rel B K σ s F H → Rep K F v d → gt d σ Qd → (∀ σ' s', Rel B K σ' s' F H → L2.wipe s' own = L2.wipe s own → Qd σ' → Q s' H) → t v s H Q
section
variable {B : Bs} {X : Cx} {K : Kn} {own : List Nat}
theorem ct_name {i : Nat} (h : i ∈ own) : CTg B K own (gName i) (ggName i) := ⟨fun d v σ s F H Qd Q R r q k => k _ _ (R.set r) (wipe_set h) q⟩
abbrev tgNames (K : PySem.W.Frag) (is : List Nat) : TG := L2.gTup K is.length fun vs σ H Q => vs.length = is.length ∧ Q (setAllV is vs σ) H
theorem ct_tup {is : List Nat} (h : ∀ i ∈ is, i ∈ own) : CTg B K own (tgNames K.K is) (ggTup is) := ⟨fun d v σ s F H Qd Q R r ⟨ds, e, hl, q⟩ k => by
  subst e
  cases r with
  | tup h' r => exact ⟨_, _, rfl, same_t R.ex h', by rw [r.length]; exact hl, by rw [r.length]; exact hl, k _ _ (R.sets r) (wipe_sets h) q⟩⟩
theorem pg_names {is : List Nat} {ts : List Expr} {kt : Nat} {pos : Pos} (hc : X.calm = true) (hn : NamesAt X ts is) (hl : (assignEach ts X.env).length = is.length := by rfl) (hst : (assignEach ts X.env).findIdx? (·.1) = none := by rfl) : PG X (.Tuple ts kt pos) (tgNames X.K is) := pg_tup hc hn.run hl hst
structure TDs (B : Bs) (X : Cx) (ifs : List Expr) (f : GT) : Prop where
  run : PTs X ifs (LT B X.kn f)
@[simp] def gYes (_ : List SV) (Q : Bool → Prop) : Prop := Q true
theorem tds_nil : TDs B X [] gYes := ⟨⟨fun pins s σ H Q I ⟨σ', F, Qd, R, q, k⟩ => pts_nil.run pins s σ H Q I (k _ q F H (Grow.refl R.ex) R.deck)⟩⟩
theorem tds_one {c : Expr} {ft : GT} (h : TD B X c ft) : TDs B X [c] ft := ⟨pts_one h.run⟩
def lcG (gt : GG) (ft : GT) (fe : GE) (own : List Nat) (σ : List SV) (Q : List D → Prop) : List D → List D → Prop
  | [], acc => Q acc
  | d :: ds, acc => gt d (wipeD σ own) fun σ2 => ft σ2 fun b => if b = true then fe σ2 fun y => acc.length < sizeLine ∧ lcG gt ft fe own σ Q ds (acc ++ [y]) else lcG gt ft fe own σ Q ds acc
@[simp] def gLc (fi : GA) (gt : GG) (ft : GT) (fe : GE) (own : List Nat) (σ : List SV) (Q : List D → Prop) : Prop := fi σ fun ds => lcG gt ft fe own σ Q ds []
theorem Grow.write {W : WD} {F H F' H' : Hp} {p : Addr} {o : HO} (g : Grow W F H F' H') (hp : H p = none) (fp : F' p = none) : Grow W F H F' (upd H' p o) :=
  ⟨g.ff, fun a u e => by
    rw [upd_ne fun z => by rw [z, fp] at e; cases e]
    exact g.fh a u e, fun a u e w => by
    rw [upd_ne fun z => by rw [z, hp] at e; cases e]
    exact g.hh a u e w, g.new, fun a e => upd_keep (g.keep a e)⟩
theorem DeckIn.write {W : WD} {F H F' H' : Hp} {p : Addr} {o : HO} (d0 : DeckIn W F H) (d : DeckIn W F' H') (hp : H p = none) : DeckIn W F' (upd H' p o) :=
  d.keep (fun _ _ => rfl) fun a w => upd_ne fun z => (d0.w w).2 (by rw [z]; exact hp)
theorem fd_lc {elt tg iter : Expr} {ifs : List Expr} {scope : Scope} {own : List (Str × Nat)} {pos : Pos} {fi : GA} {gt : GG} {ft : GT} {fe : GE} {t : TG} (hc : X.calm = true) (hN : X.N.Nodup) (hi : PID B X tg iter fi) (ok : BlkOk X.N X.env.scope scope own)
    (ct : CTg B X.kn (own.map (·.2)) t gt) (hg : ∀ (s : Shared) (H : Hp) (C : Addr) (cl : List (Str × Addr)) (fp : List Addr), PG (X.blk s H scope (compEnvC scope cl C X.env) fp) tg t)
    (ht : ∀ (s : Shared) (H : Hp) (C : Addr) (cl : List (Str × Addr)) (fp : List Addr), TDs B (X.blk s H scope (compEnvC scope cl C X.env) fp) ifs ft)
    (he : ∀ (s : Shared) (H : Hp) (C : Addr) (cl : List (Str × Addr)) (fp : List Addr), ED B (X.blk s H scope (compEnvC scope cl C X.env) fp) elt fe) (hs : ∀ x, foldedSetIterable iter X.env x = pure x := by intro _; rfl) :
    FD B X (.ListComp elt [⟨tg, iter, ifs, 0⟩] scope pos) (gLc fi gt ft fe (own.map (·.2))) :=
  ⟨pe_imp (pe_lc (te := LE B X.kn fe) (tt := LT B X.kn ft) hc hN hi.run ok hg (fun s H C cl fp => (ht s H C cl fp).run) (fun s H C cl fp => (he s H C cl fp).run) hs) fun s H Q ⟨σ, F, Qd, R, q, k⟩ => by
    refine ⟨σ, F, _, R, q, fun ds qds F1 H1 J g1 d1 okJ L hL => ?_⟩
    refine ⟨fun i m H' => m = ds.length - i ∧ ∃ F' acc vs, Grow B.W F1 H1 F' H' ∧ DeckIn B.W F' H' ∧ F' L = none ∧ H' L = some (.lst vs) ∧ Reps X.kn F' vs acc ∧ lcG gt ft fe (own.map (·.2)) σ Qd (ds.drop i) acc, ⟨ds.length, rfl, F1, [], [], Grow.laid g1.fh hL, d1.laid hL, g1.fh.free hL, upd_same, .nil, by simpa using qds⟩, ?_⟩
    rintro i m H' ⟨rfl, F', acc, vs, g', dk', fL, hv, rv, q'⟩
    by_cases hlt : i < ds.length
    · obtain ⟨hgo, hy⟩ := okJ.go F' H' i ds[i] g'.ff g'.fh dk' (by simp [hlt])
      rw [List.drop_eq_getElem_cons hlt] at q'
      refine .inr ⟨hgo, fun H3 => ∃ F3 acc3 vs3, Grow B.W F1 H1 F3 H3 ∧ DeckIn B.W F3 H3 ∧ F3 L = none ∧ H3 L = some (.lst vs3) ∧ Reps X.kn F3 vs3 acc3 ∧ lcG gt ft fe (own.map (·.2)) σ Qd (ds.drop (i + 1)) acc3, fun H3 z => ⟨ds.length - (i + 1), by omega, rfl, z⟩, fun x H2 hx => ?_⟩
      obtain ⟨F2, g2, d2, r2⟩ := hy x H2 hx
      have R2 := ((R.grow g1 d1).grow (g'.trans g2) d2).wipe (own.map (·.2))
      have nW : ¬ InW B.W L := fun w => (d1.w w).2 hL
      have key : ∀ {F3 H3 : Hp}, Grow B.W F' H' F3 H3 → F3 L = none ∧ H3 L = some (.lst vs) := fun {F3 H3} g3 => ⟨g3.new L fL (by rw [hv]; exact Option.some_ne_none _), g3.hh L _ hv nW⟩
      refine ct.run ds[i] x _ _ F2 H2 _ _ R2 r2 q' fun σ3 s3 R3 hw q3 => ⟨by rw [hw]; exact wipe_idem _ _, σ3, F2, _, R3, q3, fun b qb F3 H3 g3 d3 => ?_⟩
      cases b with
      | false =>
        have g23 := g2.trans g3
        exact ⟨F3, acc, vs, g'.trans g23, d3, (key g23).1, (key g23).2, rv.mono g23.ff, by simpa using qb⟩
      | true =>
        refine ⟨σ3, F3, _, R3.grow g3 d3, qb, fun y ⟨hz, qy⟩ F4 H4 v g4 d4 r4 => ?_⟩
        have g24 := (g2.trans g3).trans g4
        have rv4 := rv.mono g24.ff
        exact ⟨vs, (key g24).2, by rw [rv.length]; exact hz, F4, acc ++ [y], vs ++ [v], (g'.trans g24).write hL (key g24).1, d1.write d4 hL, (key g24).1, upd_same, rv4.append (.cons r4 .nil), qy⟩
    · rw [List.drop_eq_nil_of_le (by omega)] at q'
      exact .inl ⟨okJ.stop F' H' i g'.ff g'.fh (by omega), k acc q' F' H' L vs (g1.trans g') dk' (g1.back hL) fL hv rv⟩⟩
end
end ND

/-! ND7: built-in functions by data -/
namespace ND
open PySem PySem.Spec L2
open PyProof.Rows (envOfC)

/-- a built-in function of data -/
def LCa (B : Bs) (K : Kn) (g : List D → (D → Prop) → Prop) : List V → Hp → VK → Prop := fun vs H Q => ∃ F ds Qd, Same F H ∧ DeckIn B.W F H ∧ RepBs B.W K F H vs ds ∧ g ds Qd ∧ Fin B K F H Qd Q
@[simp] def gBlt (g : List D → (D → Prop) → Prop) (fs : GA) (σ : List SV) (Q : D → Prop) : Prop := fs σ fun ds => g ds Q
section
variable {B : Bs} {X : Cx} {e : Expr} {es : List Expr} {x : Str} {p pos : Pos} {fs : GA} {id T : String} {g : List D → (D → Prop) → Prop}
theorem callR_by {f : Value} {r' : List V → Hp → VK → Prop} (w : ∀ vs H Q, r' vs H Q → ∃ r, CallR X f r ∧ r vs H Q) : CallR X f r' := fun pins s σ H xs us Q I rx q => by
  obtain ⟨r, h, q'⟩ := w _ _ _ q
  exact h pins s σ H xs us Q I rx q'
theorem tcb_of {s : L2.St} {H : Hp} {Q : VK} (h : LE B X.kn (gBlt g fs) s H Q) : tCB (LCa B X.kn g) (LAB B X.kn fs) s H Q := by
  obtain ⟨σ, F, Qd, R, q, k⟩ := h
  exact ⟨σ, F, _, R, q, fun ds qd F1 H1 vs g1 d1 r1 => ⟨F1, ds, Qd, g1.fh, d1, r1, qd, k.more g1⟩⟩
theorem ed_callB (hc : CallR X (.builtin id) (LCa B X.kn g)) (hg : Gl X x) (hm : X.mg x = none) (hv : bootBuiltins x = some (.builtin id)) (ha : ABD B X (e :: es) fs) (hn : x ≠ "__name__" := by decide) (hdb : (x == ("__debug__" : Str)) = false := by decide)
    (he : starEach (e :: es) X.env = (false, eval e X.env) :: starEach es X.env := by rfl) (hpl : (backTo pos (starEach es X.env)).any (·.1) = false := by rfl) : ED B X (.Call (.Name x p) (e :: es) [] pos) (gBlt g fs) :=
  ⟨pe_imp (pe_callB hc hg hm hv ha.run hn hdb he hpl) fun s H Q h => tcb_of h⟩
theorem ed_callTy (hc : CallR X (.type T) (LCa B X.kn g)) (hg : Gl X x) (hm : X.mg x = none) (hv : bootBuiltins x = some (.type T)) (ha : ABD B X (e :: es) fs) (hn : x ≠ "__name__" := by decide) (hdb : (x == ("__debug__" : Str)) = false := by decide)
    (he : starEach (e :: es) X.env = (false, eval e X.env) :: starEach es X.env := by rfl) (hpl : (backTo pos (starEach es X.env)).any (·.1) = false := by rfl) : ED B X (.Call (.Name x p) (e :: es) [] pos) (gBlt g fs) :=
  ⟨pe_imp (pe_callTy hc hg hm hv ha.run hn hdb he hpl) fun s H Q h => tcb_of h⟩
/-- a module's name for a built-in function -/
theorem ed_callFun (hc : CallR X (.builtin id) (LCa B X.kn g)) (hg : Gl X x) (hm : X.mg x = some (.builtin id)) (ha : ABD B X (e :: es) fs) (hdb : (x == ("__debug__" : Str)) = false := by decide)
    (he : starEach (e :: es) X.env = (false, eval e X.env) :: starEach es X.env := by rfl) (hpl : (backTo pos (starEach es X.env)).any (·.1) = false := by rfl) : ED B X (.Call (.Name x p) (e :: es) [] pos) (gBlt g fs) :=
  ⟨pe_imp (pe_callBfun hc hg hm ha.run hdb he hpl) fun s H Q h => tcb_of h⟩
/-- a name of a built-in type -/
theorem ed_ty (hg : Gl X x) (hm : X.mg x = none) (hv : bootBuiltins x = some (.type T)) (hn : x ≠ "__name__" := by decide) (hdb : (x == ("__debug__" : Str)) = false := by decide) : ED B X (.Name x pos) (gC (.opq (.ty T))) :=
  ed_c (v := .ty T) (pe_bltn hg hm hv rfl hn hdb) fun _ => .opq _

theorem rb1 {W : WD} {K : Kn} {F H : Hp} {vs : List V} {d : D} (h : RepBs W K F H vs [d]) : ∃ v, vs = [v] ∧ RepB W K F H v d := by
  cases h with
  | cons h t =>
    cases t
    exact ⟨_, rfl, h⟩
theorem rb2 {W : WD} {K : Kn} {F H : Hp} {vs : List V} {d d' : D} (h : RepBs W K F H vs [d, d']) : ∃ v u, vs = [v, u] ∧ RepB W K F H v d ∧ RepB W K F H u d' := by
  cases h with
  | cons h t =>
    obtain ⟨u, rfl, h2⟩ := rb1 t
    exact ⟨_, _, rfl, h, h2⟩
/-! the answers -/
def lenD : List D → (D → Prop) → Prop
  | [.lst xs], Q => Q (.int xs.length)
  | [.tup xs], Q => Q (.int xs.length)
  | [.str x], Q => x.length ≤ sizeLine ∧ Q (.int x.length)
  | [.dic ks], Q => Q (.int ks.length)
  | _, _ => False
theorem repKs_len {K : Kn} {F : Hp} : ∀ {v : List (Key × V)} {d : List (Key × D)}, RepKs K F v d → v.length = d.length
  | _, _, .nil => rfl
  | _, _, .cons _ t => by rw [List.length_cons, List.length_cons, repKs_len t]
theorem c_len : CallR X (.builtin "len") (LCa B X.kn lenD) := callR_by fun vs H Q ⟨F, ds, Qd, e, dk, r, q, k⟩ => by
  unfold lenD at q
  split at q
  · obtain ⟨v, rfl, r1⟩ := rb1 r
    obtain ⟨a, us, rfl, h1, h2⟩ := r1.lst e
    exact ⟨_, call_len_seq, a, us, rfl, .inl (SqL.of h1), by rw [h2.length]; exact k.here e dk q (.int _)⟩
  · obtain ⟨v, rfl, r1⟩ := rb1 r
    obtain ⟨a, us, rfl, _, h1, h2⟩ := r1.tup e
    exact ⟨_, call_len_seq, a, us, rfl, .inr h1, by rw [h2.length]; exact k.here e dk q (.int _)⟩
  · obtain ⟨v, rfl, r1⟩ := rb1 r
    exact ⟨_, call_len_str, _, by rw [r1.str], q.1, k.here e dk q.2 (.int _)⟩
  · obtain ⟨v, rfl, r1⟩ := rb1 r
    obtain ⟨a, us, rfl, h1, h2⟩ := r1.dic e
    exact ⟨_, call_lenD, a, us, rfl, h1, by rw [repKs_len h2]; exact k.here e dk q (.int _)⟩
  · exact q.elim
def intD : List D → (D → Prop) → Prop
  | [.int i], Q => Q (.int i)
  | [.bl b], Q => Q (.int (if b = true then 1 else 0))
  | [.str x], Q => ∃ n, intText? x = some n ∧ x.length ≤ 640 ∧ Q (.int n)
  | _, _ => False
theorem c_int : CallR X (.type "int") (LCa B X.kn intD) := callR_by fun vs H Q ⟨F, ds, Qd, e, dk, r, q, k⟩ => by
  unfold intD at q
  split at q
  · obtain ⟨v, rfl, r1⟩ := rb1 r
    exact ⟨_, call_int1, .inl ⟨_, by rw [r1.int], k.here e dk q (.int _)⟩⟩
  · obtain ⟨v, rfl, r1⟩ := rb1 r
    exact ⟨_, call_int1, .inr ⟨_, by rw [r1.bl], k.here e dk q (.int _)⟩⟩
  · obtain ⟨v, rfl, r1⟩ := rb1 r
    obtain ⟨n, h1, h2, h3⟩ := q
    exact ⟨_, call_int_str, _, n, by rw [r1.str], h1, h2, k.here e dk h3 (.int _)⟩
  · exact q.elim
def boolD : List D → (D → Prop) → Prop
  | [.int i], Q => Q (.bl (i != 0))
  | [.bl b], Q => Q (.bl b)
  | _, _ => False
theorem c_bool : CallR X (.type "bool") (LCa B X.kn boolD) := callR_by fun vs H Q ⟨F, ds, Qd, e, dk, r, q, k⟩ => by
  unfold boolD at q
  split at q
  · obtain ⟨v, rfl, r1⟩ := rb1 r
    exact ⟨_, call_bool1, .inl ⟨_, by rw [r1.int], k.here e dk q (.bl _)⟩⟩
  · obtain ⟨v, rfl, r1⟩ := rb1 r
    exact ⟨_, call_bool1, .inr ⟨_, by rw [r1.bl], k.here e dk q (.bl _)⟩⟩
  · exact q.elim
def absD : List D → (D → Prop) → Prop
  | [.int i], Q => Q (.int (if i < 0 then -i else i))
  | _, _ => False
theorem c_abs : CallR X (.builtin "abs") (LCa B X.kn absD) := callR_by fun vs H Q ⟨F, ds, Qd, e, dk, r, q, k⟩ => by
  unfold absD at q
  split at q
  · obtain ⟨v, rfl, r1⟩ := rb1 r
    exact ⟨_, call_abs, _, by rw [r1.int], k.here e dk q (.int _)⟩
  · exact q.elim
def max2D : List D → (D → Prop) → Prop
  | [.int i, .int j], Q => Q (.int (if j > i then j else i))
  | _, _ => False
theorem c_max2 (hc : X.calm = true) : CallR X (.builtin "max") (LCa B X.kn max2D) := callR_by fun vs H Q ⟨F, ds, Qd, e, dk, r, q, k⟩ => by
  unfold max2D at q
  split at q
  · obtain ⟨v, u, rfl, r1, r2⟩ := rb2 r
    exact ⟨_, call_max2 hc, _, _, by rw [r1.int, r2.int], k.here e dk q (.int _)⟩
  · exact q.elim
def min2D : List D → (D → Prop) → Prop
  | [.int i, .int j], Q => Q (.int (if j < i then j else i))
  | _, _ => False
theorem c_min2 (hc : X.calm = true) : CallR X (.builtin "min") (LCa B X.kn min2D) := callR_by fun vs H Q ⟨F, ds, Qd, e, dk, r, q, k⟩ => by
  unfold min2D at q
  split at q
  · obtain ⟨v, u, rfl, r1, r2⟩ := rb2 r
    exact ⟨_, call_min2 hc, _, _, by rw [r1.int, r2.int], k.here e dk q (.int _)⟩
  · exact q.elim
def gcdD : List D → (D → Prop) → Prop
  | [.int i, .int j], Q => Q (.int ((Nat.gcd i.natAbs j.natAbs : Nat) : Int))
  | _, _ => False
theorem c_gcd : CallR X (.builtin "math.gcd") (LCa B X.kn gcdD) := callR_by fun vs H Q ⟨F, ds, Qd, e, dk, r, q, k⟩ => by
  unfold gcdD at q
  split at q
  · obtain ⟨v, u, rfl, r1, r2⟩ := rb2 r
    exact ⟨_, cr_gcd, _, _, by rw [r1.int, r2.int], k.here e dk q (.int _)⟩
  · exact q.elim
theorem isqrt_wide : CallR X (.builtin "math.isqrt") (fun vs H Q => ∃ a : Int, vs = [.int a] ∧ 0 ≤ a ∧ a.toNat.log2 < 13000 ∧ Q (.int ((Float64.isqrt a.toNat : Nat) : Int)) H) := by
  intro pins s σ H vs us Q I r h
  obtain ⟨a, rfl, h0, h1, q⟩ := h
  obtain ⟨u, rfl, t, rfl⟩ := vals1 r
  have h2 : a.toNat.log2 / 30 < 434 := Nat.div_lt_of_lt_mul (by omega)
  exact call_function_meets PySem.W.MGF.kind_isqrt PySem.W.MGF.plain_isqrt PySem.W.MGF.entry_isqrt (PySem.W.MGF.args_isqrt _) (PySem.W.mg_run_isqrt a t (by omega) (by omega) (by omega)).meets ⟨.int _, H, I.tok _, ⟨_, rfl⟩, q⟩
def isqrtD : List D → (D → Prop) → Prop
  | [.int i], Q => 0 ≤ i ∧ i.toNat.log2 < 13000 ∧ Q (.int ((Float64.isqrt i.toNat : Nat) : Int))
  | _, _ => False
theorem c_isqrt : CallR X (.builtin "math.isqrt") (LCa B X.kn isqrtD) := callR_by fun vs H Q ⟨F, ds, Qd, e, dk, r, q, k⟩ => by
  unfold isqrtD at q
  split at q
  · obtain ⟨v, rfl, r1⟩ := rb1 r
    exact ⟨_, isqrt_wide, _, by rw [r1.int], q.1, q.2.1, k.here e dk q.2.2 (.int _)⟩
  · exact q.elim

/-! isinstance with a built-in type -/
def tyD : D → Option String
  | .non => some "NoneType" | .bl _ => some "bool" | .int _ => some "int" | .str _ => some "str" | .tup _ => some "tuple" | .lst _ => some "list" | .dic _ => some "dict" | _ => none
def isTb (t T : String) : Bool := t == T || (t == "bool" && T == "int")
def knownT (T : String) : Bool := T == "int" || T == "bool" || T == "str" || T == "tuple" || T == "list" || T == "dict"
def isiB (T : String) (x : D) : Bool := match tyD x with | some t => isTb t T | none => false
def isiD : List D → (D → Prop) → Prop
  | [x, .opq (.ty T)], Q => knownT T = true ∧ (tyD x).isSome = true ∧ Q (.bl (isiB T x))
  | _, _ => False
theorem kitB_all : ∀ t ∈ ["NoneType", "bool", "int", "str", "tuple", "list", "dict"], ∀ T ∈ ["int", "bool", "str", "tuple", "list", "dict"], kitB t T = some (isTb t T) := by decide +kernel
theorem tyD_mem {x : D} {t : String} (h : tyD x = some t) : t ∈ ["NoneType", "bool", "int", "str", "tuple", "list", "dict"] := by
  cases x <;> simp only [tyD, Option.some.injEq, reduceCtorEq] at h <;> subst h <;> simp
theorem RepB.tyx {W : WD} {K : Kn} {F H : Hp} {v : V} {x : D} {t : String} (h : RepB W K F H v x) (e : Same F H) (ht : tyD x = some t) : TyX K.K H v (.type t) := by
  cases x <;> simp only [tyD, Option.some.injEq, reduceCtorEq] at ht <;> subst ht
  · rw [h.non]; exact .base .non
  · rw [h.bl]; exact .base (.bl _)
  · rw [h.int]; exact .base (.int _)
  · rw [h.str]; exact .base (.str _)
  · obtain ⟨a, us, rfl, _, h1, h2⟩ := h.tup e
    rcases h1 with (h1 | ⟨o, h1⟩) | ⟨o, its, n, h1, h2, _⟩
    · exact .base (.tup h1)
    · exact .fTuple h1
    · exact .kTuple h1 h2
  · obtain ⟨a, us, rfl, h1, h2⟩ := h.lst e
    exact .base (.lst h1)
  · obtain ⟨a, us, rfl, h1, h2⟩ := h.dic e
    exact .base (.dK h1)
theorem c_isi : CallR X (.builtin "isinstance") (LCa B X.kn isiD) := callR_by fun vs H Q ⟨F, ds, Qd, e, dk, r, q, k⟩ => by
  unfold isiD at q
  split at q
  · rename_i x T
    obtain ⟨v, u, rfl, r1, r2⟩ := rb2 r
    obtain ⟨h1, h2, h3⟩ := q
    obtain ⟨t, ht⟩ := Option.isSome_iff_exists.mp h2
    have hu := r2.opq
    subst hu
    refine ⟨_, call_isi, v, .ty T, .type t, .type T, isTb t T, rfl, .ty T, r1.tyx e ht, kit_ty (kitB_all t (tyD_mem ht) T ?_), k.here e dk ?_ (.bl _)⟩
    · simp only [knownT, Bool.or_eq_true, beq_iff_eq] at h1
      rcases h1 with ((((h | h) | h) | h) | h) | h <;> subst h <;> simp
    · have : isiB T x = isTb t T := by unfold isiB; rw [ht]
      rw [← this]
      exact h3
  · exact q.elim

/-! repr of plain data -/
def reprD : List D → (D → Prop) → Prop
  | [x], Q => pl 64 x = true ∧ (toPy x).showable = true ∧ (toPy x).shown.length ≤ sizeLine ∧ Q (.str (toPy x).shown)
  | _, _ => False
theorem c_repr (hG : X.A.guards = some []) (hu : X.A.units + 65 < cLine) : CallR X (.builtin "repr") (LCa B X.kn reprD) := fun pins s σ H vs us Q I rx ⟨F, ds, Qd, e, dk, r, q, k⟩ => by
  unfold reprD at q
  split at q
  · rename_i x
    obtain ⟨v, rfl, r1⟩ := rb1 r
    obtain ⟨h1, h2, h3, h4⟩ := q
    obtain ⟨u, rfl, ru⟩ := vals1 rx
    have fin : Q (.str (toPy x).shown) H := k.here e dk h4 (.str _)
    have sh := pl_shape 64 x h1
    have refs : ∀ a, v = .ref a → wpAny (model X.prog X.w) X.A (call (.builtin "repr") [u]) (EP X pins σ Q) X.xe s := fun a hv => by
      subst hv
      cases ru
      obtain ⟨as, rd⟩ := Dp.reads I _ _ _ (r1.dp e h1) rfl
      refine PySem.repr_of_reads' rd h2 (PyData.noDict_hsm (PyData.hasDict_of_canLay _ sh.1)) hG (by omega) (fun _ _ z => z) (fun h' u tk hk => ?_) h3
      exact ⟨.str _, H, I.kept (t' := tk) hk, ⟨_, rfl⟩, fin⟩
    cases x with
    | non =>
      have := r1.non
      subst this
      cases ru
      exact PySem.P.repr_of_none ⟨.str _, H, I.tok _, ⟨_, rfl⟩, by simpa [toPy, PyData.shown] using fin⟩
    | bl b =>
      have := r1.bl
      subst this
      cases ru
      exact PySem.P.repr_of_bool ⟨.str _, H, I.tok _, ⟨_, rfl⟩, by simpa [toPy, PyData.shown] using fin⟩
    | int i =>
      have := r1.int
      subst this
      obtain ⟨t, rfl⟩ := ru
      exact PySem.P.repr_of_int (by simpa [toPy, PyData.showable] using h2) ⟨.str _, H, I.tok _, ⟨_, rfl⟩, by simpa [toPy, PyData.shown] using fin⟩
    | str i =>
      have := r1.str
      subst this
      obtain ⟨t, rfl⟩ := ru
      exact PySem.P.repr_of_str ⟨.str _, H, I.tok _, ⟨_, rfl⟩, by simpa [toPy, PyData.shown] using fin⟩ (by simpa [toPy, PyData.shown] using h3)
    | tup xs =>
      obtain ⟨a, us, hv, _⟩ := r1.tup e
      exact refs a hv
    | lst xs =>
      obtain ⟨a, us, hv, _⟩ := r1.lst e
      exact refs a hv
    | dic _ => simp [pl] at h1
    | obj _ _ => simp [pl] at h1
    | opq _ => simp [pl] at h1
  · exact q.elim

/-! text * int -/
def repS : D → D → (D → Prop) → Prop
  | .str x, .int k, Q => 1 ≤ k ∧ x.length * k.toNat ≤ sizeLine ∧ x.length ≠ 0 ∧ Q (.str (Txt.mul x k))
  | _, _, _ => False
theorem o_repS : OpR X (binaryOp .Mult) (LO2 B X.kn repS) := fun pins s σ H x y v u Q I rx ry ⟨F, a, b, Qd, e, dk, r1, r2, q, k⟩ => by
  unfold repS at q
  split at q
  · rename_i z n
    obtain ⟨h1, h2, h0, h3⟩ := q
    have e1 := r1.str
    have e2 := r2.int
    subst e1 e2
    obtain ⟨t, rfl⟩ := rx
    obtain ⟨t', rfl⟩ := ry
    have hn : n.toNat ≤ z.length * n.toNat := Nat.le_mul_of_pos_left _ (by omega)
    have hs : (sizeLine : Nat) < 2 ^ 62 := by decide
    have hb : (z.length : Int) ≤ (2 ^ 63 - 1) / n := by
      rw [Int.le_ediv_iff_mul_le (by omega)]
      have e3 : (z.length : Int) * n = ((z.length * n.toNat : Nat) : Int) := by
        rw [Int.natCast_mul, Int.toNat_of_nonneg (by omega)]
      rw [e3]
      have : z.length * n.toNat < 2 ^ 62 := by omega
      have h5 : ((z.length * n.toNat : Nat) : Int) < ((2 ^ 62 : Nat) : Int) := Int.ofNat_lt.mpr this
      have h6 : ((2 ^ 62 : Nat) : Int) ≤ 2 ^ 63 - 1 := by decide
      omega
    refine PySem.SB.mul ⟨?_, fun _ _ => by omega, fun _ _ => ?_⟩ fun t' tk => ⟨.str _, H, I.tok _, ⟨_, rfl⟩, k.here e dk h3 (.str _)⟩
    · have hlt : n.toNat < 2 ^ 62 := by omega
      simp only [Bool.or_eq_false_iff, decide_eq_false_iff_not]
      have h7 : (2 : Int) ^ 63 = 9223372036854775808 := by decide
      have h8 : (2 : Nat) ^ 62 = 4611686018427387904 := by decide
      omega
    · unfold PySem.Builtin.Str.tooLong
      exact decide_eq_false (by omega)
  · exact q.elim
end
end ND

/-! ND8: defs by data -/
namespace ND
open PySem PySem.Spec L2
open PyProof.Rows (envOfC)

def startD (n : Nat) (ds : List D) : List SV := ds.map SV.d ++ List.replicate (n - ds.length) .no
theorem rel_start {W : WD} {K : Kn} {F H : Hp} {N : List Str} {vs : List V} {ds : List D} (e : Same F H) (dk : DeckIn W F H) (r : Reps K F vs ds) : Rel ⟨W, F, H⟩ K (startD N.length ds) (L2.start N vs) F H := by
  refine ⟨Grow.refl e, dk, dk, ?_, fun _ => none, ⟨fun i j a z => (nomatch z), fun i a z => (nomatch z)⟩, fun i x v e1 e2 => ?_⟩
  · unfold startD L2.start
    simp [r.length]
  · unfold startD at e1
    unfold L2.start at e2
    by_cases hi : i < ds.length
    · rw [List.getElem?_append_left (by simpa using hi)] at e1
      rw [List.getElem?_append_left (by simpa [r.length] using hi)] at e2
      rw [List.getElem?_map] at e1 e2
      cases ed : ds[i]? with
      | none =>
        rw [ed] at e1
        cases e1
      | some d =>
        rw [ed] at e1
        obtain ⟨u, h1, h2⟩ := r.get ed
        rw [h1] at e2
        cases e1
        cases e2
        exact h2
    · rw [List.getElem?_append_right (by simpa using hi)] at e1
      rw [List.getElem?_append_right (by simpa [r.length] using hi)] at e2
      have h1 := List.eq_of_mem_replicate (List.mem_of_getElem? e1)
      have h2 := List.eq_of_mem_replicate (List.mem_of_getElem? e2)
      subst h1 h2
      exact True.intro
/-- behind a def's body -/
@[simp] def endsD (Q : D → Prop) : Ed := { nx := fun _ => Q .non, rt := Q, bk := fun _ => False, ct := fun _ => False }
section
variable {P : Program} {w : World} {K : PySem.W.Frag} {mg : Str → Option Value} {base : Heap} {x qual : Str} {st : Stmt} {f : Addr} {fd : FuncData} {N ps : List Str} {k : Nat} {sp : DSp} {g : WD → (Er → Prop) → GS}
abbrev cxD (P : Program) (w : World) (K : PySem.W.Frag) (mg : Str → Option Value) (base : Heap) (N : List Str) (qual : Str) (st : Stmt) (f : Addr) (cdv : Value) (A : Around) (outer : List Env) (s : Shared) (H : Hp) (E : XK) : Cx :=
  cxOf (L2.CX P w) P w K mg base N qual (defScope st) f cdv A outer s H E
theorem body_run {cdv : Value} {A : Around} {outer : List Env} {s : Shared} {H : Hp} {E : XK} {W : WD} {F : Hp} {ds : List D} {vs : List V} {Qd : D → Prop} {Q : VK} {R : Er → Prop} (hb : SDs ⟨W, F, H⟩ (cxD P w K mg base N qual st f cdv A outer s H E) (defBody st) (g W R))
    (e : Same F H) (dk : DeckIn W F H) (r : Reps ⟨K, mg⟩ F vs ds) (q : g W R (endsD Qd) (startD N.length ds)) (kf : Fin ⟨W, F, H⟩ ⟨K, mg⟩ F H Qd Q) :
    ∃ t, PSs (cxD P w K mg base N qual st f cdv A outer s H E) (defBody st) t ∧ t { nx := fun _ H' => Q .non H', rt := Q } (L2.start N vs) H :=
  ⟨_, hb.run, startD N.length ds, F, endsD Qd, rel_start e dk r, q, ⟨fun σ s F' H' _ R' qn => kf .non qn F' H' .non R'.base R'.deck .non, fun d v F' H' _ g' dk' r' qd => kf d qd F' H' v g' dk' r', fun _ _ _ _ _ _ z => z.elim, fun _ _ _ _ _ _ z => z.elim⟩⟩
theorem okD (F : Fun K x qual st f fd) (S : FnScope N ps (defScope st)) (hlen : ∀ W ds Q R, sp W ds Q R → ds.length = ps.length)
    (body : ∀ (cdv : Value) (A : Around) (outer : List Env) (s : Shared) (H : Hp) (E : XK) (W : WD) (F : Hp) (R : Er → Prop), Room k (A.deeper (envOfC qual (defScope st) s.heap.objs.size f cdv)) → FinE W ⟨K, mg⟩ F H R E →
      PassesOwn (model P w) (cxD P w K mg base N qual st f cdv A outer s H E).A (cxD P w K mg base N qual st f cdv A outer s H E).env (cxD P w K mg base N qual st f cdv A outer s H E).xe →
      Passes (L2.CX P w) (cxD P w K mg base N qual st f cdv A outer s H E) E → SDs ⟨W, F, H⟩ (cxD P w K mg base N qual st f cdv A outer s H E) (defBody st) (g W R))
    (law : ∀ W ds Q R, sp W ds Q R → g W R (endsD Q) (startD N.length ds)) : FnOk P w K mg base (L2.CX P w) (k + 1) f fd ps (liftSp ⟨K, mg⟩ sp) := by
  refine F.okX S (fun vs H Q E ⟨W, F, ds, Qd, Rd, h1, h2, h3, h4, _⟩ => h3.length.trans (hlen _ _ _ _ h4)) fun cdv A outer s H vs Q E hr ⟨W, F, ds, Qd, Rd, h1, h2, h3, h4, h5, h6⟩ => ?_
  exact body_run (body cdv A outer s H E W F Rd hr h6 (passes_of rfl) (passes_call (takes_of rfl rfl rfl rfl) fun _ _ _ _ z => z)) h1 h2 h3 (law W ds Qd Rd h4) h5
theorem okG (F : Fun K x qual st f fd) (S : FnScope N ps (defScope st)) (hlen : ∀ W ds Q R, sp W ds Q R → ds.length = ps.length)
    (body : ∀ (cdv : Value) (A : Around) (outer : List Env) (s : Shared) (H : Hp) (E : XK) (W : WD) (F : Hp) (R : Er → Prop), (A.deeper (envOfC qual (defScope st) s.heap.objs.size f cdv)).guards = some [] → Room k (A.deeper (envOfC qual (defScope st) s.heap.objs.size f cdv)) → FinE W ⟨K, mg⟩ F H R E →
      PassesOwn (model P w) (cxD P w K mg base N qual st f cdv A outer s H E).A (cxD P w K mg base N qual st f cdv A outer s H E).env (cxD P w K mg base N qual st f cdv A outer s H E).xe →
      Passes (L2.CX P w) (cxD P w K mg base N qual st f cdv A outer s H E) E → SDs ⟨W, F, H⟩ (cxD P w K mg base N qual st f cdv A outer s H E) (defBody st) (g W R))
    (law : ∀ W ds Q R, sp W ds Q R → g W R (endsD Q) (startD N.length ds)) : FnG P w K mg base (k + 1) f fd ps (liftSp ⟨K, mg⟩ sp) := by
  obtain ⟨oc, od, kV, doc, pm, an, cdv, ct, osl, rfl, lk, hcd⟩ := F.ex
  refine fn_ofG lk hcd S (fun vs H Q E ⟨W, F, ds, Qd, Rd, h1, h2, h3, h4, _⟩ => h3.length.trans (hlen _ _ _ _ h4)) fun A outer s H vs Q E hG hr ⟨W, F, ds, Qd, Rd, h1, h2, h3, h4, h5, h6⟩ => ?_
  exact body_run (body cdv A outer s H E W F Rd hG hr h6 (passes_of rfl) (passes_call (takes_of rfl rfl rfl rfl) fun _ _ _ _ z => z)) h1 h2 h3 (law W ds Qd Rd h4) h5
end

/-- the def of the name x keeps sp, at the level k -/
structure OkD (P : Program) (w : World) (K : PySem.W.Frag) (mg : Str → Option Value) (base : Heap) (x : Str) (st : Stmt) (k : Nat) (ps : List Str) (sp : DSp) : Prop where
  ex : ∃ f fd, mg x = some (.ref f) ∧ Fun K x x st f fd ∧ FnOk P w K mg base (L2.CX P w) k f fd ps (liftSp ⟨K, mg⟩ sp)
structure OkG (P : Program) (w : World) (K : PySem.W.Frag) (mg : Str → Option Value) (base : Heap) (x : Str) (st : Stmt) (k : Nat) (ps : List Str) (sp : DSp) : Prop where
  ex : ∃ f fd, mg x = some (.ref f) ∧ Fun K x x st f fd ∧ FnG P w K mg base k f fd ps (liftSp ⟨K, mg⟩ sp)
/-- how the def st binds by position, by keyword -/
abbrev BindsP (x : Str) (st : Stmt) (ps : List Str) : Prop := ∀ (kV doc pm : Value) (an : Option Addr) (cdv ct : Value) (us : List Value), us.length = ps.length → bindArgs (PySem.W.fnOf x x (defArgs st) (defBody st) (defScope st) .none kV doc pm an cdv ct) ⟨us, []⟩ = pure (ps.zip us)
abbrev BindsKw (x : Str) (st : Stmt) (ps ks : List Str) (n m : Nat) (pm : List Nat) : Prop := ∀ (kV doc pmv : Value) (an : Option Addr) (cdv ct : Value) (us ws : List Value), us.length = n → ws.length = m →
  bindArgs (PySem.W.fnOf x x (defArgs st) (defBody st) (defScope st) .none kV doc pmv an cdv ct) ⟨us, ks.zip ws⟩ = pure (ps.zip (permA n m pm us ws))
section
variable {B : Bs} {X : Cx} {k : Nat} {ps : List Str} {sp : DSp} {R : Er → Prop} {E : XK} {x : Str} {st : Stmt} {p pos : Pos} {e : Expr} {es : List Expr} {fs fk : GA} {ks : List Str} {kws : List Keyword} {n m : Nat} {pm : List Nat}
theorem ed_o (O : OkD X.prog X.w X.K X.mg X.base x st k ps sp) (b : BindsP x st ps) (hr : Room k X.A) (hx : Passes (L2.CX X.prog X.w) X E) (hE : FinE B.W X.kn B.F B.H R E) (ha : AD B X (e :: es) fs) (hg : Gl X x := by rfl) (hdb : (x == ("__debug__" : Str)) = false := by decide)
    (he : starEach (e :: es) X.env = (false, eval e X.env) :: starEach es X.env := by rfl) (hpl : (backTo pos (starEach es X.env)).any (·.1) = false := by rfl) : ED B X (.Call (.Name x p) (e :: es) [] pos) (gCall sp B.W R fs) := by
  obtain ⟨f, fd, hm, F, G⟩ := O.ex
  exact ed_call G hr hg hm F.kp (F.binds b) hx hE ha hdb he hpl
theorem ed_g (O : OkG X.prog X.w X.K X.mg X.base x st k ps sp) (b : BindsP x st ps) (hG : X.A.guards = some []) (hr : Room k X.A) (hx : Passes (L2.CX X.prog X.w) X E) (hE : FinE B.W X.kn B.F B.H R E) (ha : AD B X (e :: es) fs) (hg : Gl X x := by rfl) (hdb : (x == ("__debug__" : Str)) = false := by decide)
    (he : starEach (e :: es) X.env = (false, eval e X.env) :: starEach es X.env := by rfl) (hpl : (backTo pos (starEach es X.env)).any (·.1) = false := by rfl) : ED B X (.Call (.Name x p) (e :: es) [] pos) (gCall sp B.W R fs) := by
  obtain ⟨f, fd, hm, F, G⟩ := O.ex
  exact ed_callG G hG hr hg hm F.kp (F.binds b) hx hE ha hdb he hpl
theorem kb_of {K : PySem.W.Frag} {f : Addr} {fd : FuncData} (F : Fun K x x st f fd) (hp : ps ≠ []) (b : BindsKw x st ps ks n m pm) : KBinds K fd ps ks (permA n m pm) (permA n m pm) := by
  obtain ⟨oc, od, kV, doc, pmv, an, cdv, ct, osl, rfl, lk, hcd⟩ := F.ex
  exact kb_perm hp fun us ws h1 h2 => b kV doc pmv an cdv ct us ws h1 h2
theorem ed_ok (O : OkD X.prog X.w X.K X.mg X.base x st k ps sp) (hp : ps ≠ []) (b : BindsKw x st ps ks n m pm) (hr : Room k X.A) (hx : Passes (L2.CX X.prog X.w) X E) (hE : FinE B.W X.kn B.F B.H R E) (ha : AD B X (e :: es) fs) (hkw : KD B X kws fk) (hg : Gl X x := by rfl)
    (hall : (backToKw pos (keywordEach kws X.env)).all (·.1.isSome) = true := by rfl) (hks : (backToKw pos (keywordEach kws X.env)).filterMap (·.1) = ks := by rfl)
    (hdb : (x == ("__debug__" : Str)) = false := by decide) (he : starEach (e :: es) X.env = (false, eval e X.env) :: starEach es X.env := by rfl)
    (hpl : ((backTo pos (starEach (e :: es) X.env)).any (·.1) || (backToKw pos (keywordEach kws X.env)).any (·.1.isNone)) = false := by rfl) : ED B X (.Call (.Name x p) (e :: es) kws pos) (gCallK sp n m pm B.W R fs fk) := by
  obtain ⟨f, fd, hm, F, G⟩ := O.ex
  exact ed_callK G hr hg hm F.kp (kb_of F hp b) hx hE ha hkw hall hks hdb he hpl
theorem ed_ok0 (O : OkD X.prog X.w X.K X.mg X.base x st k ps sp) (hp : ps ≠ []) (b : BindsKw x st ps ks n m pm) (hr : Room k X.A) (hx : Passes (L2.CX X.prog X.w) X E) (hE : FinE B.W X.kn B.F B.H R E) (hkw : KD B X kws fk) (hg : Gl X x := by rfl)
    (hall : (backToKw pos (keywordEach kws X.env)).all (·.1.isSome) = true := by rfl) (hks : (backToKw pos (keywordEach kws X.env)).filterMap (·.1) = ks := by rfl)
    (hdb : (x == ("__debug__" : Str)) = false := by decide)
    (hpl : ((backTo pos (starEach [] X.env)).any (·.1) || (backToKw pos (keywordEach kws X.env)).any (·.1.isNone)) = false := by rfl) : ED B X (.Call (.Name x p) [] kws pos) (gCallK sp n m pm B.W R gNil fk) := by
  obtain ⟨f, fd, hm, F, G⟩ := O.ex
  exact ed_callK0 G hr hg hm F.kp (kb_of F hp b) hx hE hkw hall hks hdb hpl
end
end ND

/-! ND9: the deck: making it, drawing from it -/
namespace ND
open PySem PySem.Spec L2
open PyProof.Rows (envOfC)

theorem nbMax : bootBuiltins "max" = some (.builtin "max") := by decide +kernel
theorem nbMin : bootBuiltins "min" = some (.builtin "min") := by decide +kernel
theorem nbInt : bootBuiltins "int" = some (.type "int") := by decide +kernel
theorem nbBool : bootBuiltins "bool" = some (.type "bool") := by decide +kernel
theorem nbTuple : bootBuiltins "tuple" = some (.type "tuple") := by decide +kernel
theorem nbList : bootBuiltins "list" = some (.type "list") := by decide +kernel
theorem nbDict : bootBuiltins "dict" = some (.type "dict") := by decide +kernel
theorem nbStr : bootBuiltins "str" = some (.type "str") := by decide +kernel
theorem nbLen : bootBuiltins "len" = some (.builtin "len") := by decide +kernel
theorem nbAbs : bootBuiltins "abs" = some (.builtin "abs") := by decide +kernel
theorem nbIsi : bootBuiltins "isinstance" = some (.builtin "isinstance") := by decide +kernel
theorem nbRepr : bootBuiltins "repr" = some (.builtin "repr") := by decide +kernel

theorem nosl {x : Str} {j : Nat} {p : Pos} : NoSl (.Constant (.str x) j p) := fun _ _ => rfl
abbrev iM (t : TA) : TE := tCB (fun xs H Q => (∃ i, xs = [V.int i] ∧ Q (V.int i) H) ∨ ∃ k, xs = [V.bl k] ∧ Q (V.int (if k = true then 1 else 0)) H) t
abbrev aP (a b : TE) : TE := tOp (rI0 fun i j => V.int (i + j)) a b
abbrev mP (a b : TE) : TE := tOp (rI CMul fun i j => V.int (i * j)) a b
abbrev rP (a b : TE) : TE := tOp (rI (fun _ j => 0 < j) fun i j => V.int (i % j)) a b
abbrev fP (a b : TE) : TE := tOp (rI CDivW fun i j => V.int (i / j)) a b
abbrev dG (k : Str) : TE := tDGet (tVar 0) (tC (V.str k))
abbrev tDraw6 : TS :=
  tSeq (tAsg (rP (iM (tCons (mP (tVar 2) (tC (V.int 40692))) tNil)) (tC (V.int 2147483647))) (gName 2))
  (tRet (rP (iM (tCons (fP (tVar 2) (tC (V.int 64))) tNil)) (tVar 1)))
abbrev tDraw5 : TS :=
  tSeq (tAsg (rP (iM (tCons (aP (aP (mP (tVar 2) (tVar 2)) (mP (tC (V.int 52774)) (dG "draws"))) (tC (V.int 17))) tNil)) (tC (V.int 2147483399))) (gName 2)) tDraw6
abbrev tDraw4 : TS :=
  tSeq (tAsg (rP (iM (tCons (aP (mP (tVar 2) (tC (V.int 40014))) (tC (V.int 91))) tNil)) (tC (V.int 2147483563))) (gName 2)) tDraw5
abbrev tDraw3 (K : PySem.W.Frag) : TS :=
  tIfS (tTest (tOp (rNeD K) (dG "left") (tLst tNil)))
    (tSeq (tAsg (tBM0 K "list" rPop (dG "left")) (gName 3))
      (tSeq (tIfS (tTest (tOp (rI0 fun i j => V.bl (decide (j ≤ i))) (tVar 3) (tOp (rI CPow fun i j => V.int (i ^ j.toNat)) (tC (V.int 10)) (tC (V.int 18)))))
        (tSeq (tDrop (tBM K "list" rAppend (dG "left") (tCons (fP (tVar 3) (tCB (fun xs H Q => ∃ i j, xs = [V.int i, V.int j] ∧ Q (V.int (if j > i then j else i)) H) (tCons (tC (V.int 2)) (tCons (tVar 1) tNil)))) tNil)))
          (tRet (rP (iM (tCons (tVar 3) tNil)) (tVar 1))))
        tNext)
      (tAsg (aP (tVar 2) (rP (iM (tCons (tVar 3) tNil)) (tC (V.int 2147483629)))) (gName 2))))
    tNext
abbrev tDraw (c : Int) (K : PySem.W.Frag) : TS :=
  tSeq (sDPut (tVar 0) (tC (V.str "draws")) (aP (dG "draws") (tC (V.int 1))))
  (tSeq (tAsg (aP (dG "mixed") (mP (tC (V.int c)) (dG "draws"))) (gName 2))
  (tSeq (tDraw3 K) tDraw4))

theorem kl_d : (Sum.inr (PySem.Str.ofString "left") : Key) ≠ Sum.inr (PySem.Str.ofString "draws") := by decide +kernel
theorem km_d : (Sum.inr (PySem.Str.ofString "mixed") : Key) ≠ Sum.inr (PySem.Str.ofString "draws") := by decide +kernel
theorem kl_m : (Sum.inr (PySem.Str.ofString "left") : Key) ≠ Sum.inr (PySem.Str.ofString "mixed") := by decide +kernel
section
variable {H : Hp} {d l : Addr} {m n : Int} {ns : List Int}
theorem dg_left (h : H d = some (deckO l m n)) : DGet H d (.str "left") (some (.ref l)) := .inl ⟨_, .inr "left", .inl h, rfl, by rw [valV_pos rfl]⟩
theorem dg_mixed (h : H d = some (deckO l m n)) : DGet H d (.str "mixed") (some (.int m)) := .inl ⟨_, .inr "mixed", .inl h, rfl, by rw [valV_neg kl_m, valV_pos rfl]⟩
theorem dg_draws (h : H d = some (deckO l m n)) : DGet H d (.str "draws") (some (.int n)) := .inl ⟨_, .inr "draws", .inl h, rfl, by rw [valV_neg kl_d, valV_neg km_d, valV_pos rfl]⟩
theorem dp_draws (h : H d = some (deckO l m n)) (k : Int) : DPut H d (.str "draws") (.int k) (upd H d (deckO l m k)) := .inl ⟨_, .inr "draws", h, rfl, by show 3 < sizeLine; decide, by
  have e : putK [((Sum.inr "left" : Key), V.ref l), (Sum.inr "mixed", V.int m), (Sum.inr "draws", V.int n)] (Sum.inr "draws") (V.int k) = [((Sum.inr "left" : Key), V.ref l), (Sum.inr "mixed", V.int m), (Sum.inr "draws", V.int k)] := by
    unfold putK
    simp only [List.any_cons, decide_true, Bool.true_or, Bool.or_true, List.any_nil, if_true, List.map_cons, List.map_nil, kl_d, km_d, if_false]
  rw [e]
  rfl⟩
theorem dp_ints {K : PySem.W.Frag} : ∀ ns : List Int, DpAll K H (ns.map V.int) (ns.map PyData.int)
  | [] => .nil
  | n :: ns => .cons (.int n) (dp_ints ns)
theorem ints_lay : ∀ ns : List Int, PyData.canLayAll0 (ns.map PyData.int) = true ∧ PyData.depthAll (ns.map PyData.int) ≤ 1
  | [] => by simp [PyData.canLayAll0, PyData.depthAll]
  | n :: ns => by
    obtain ⟨h1, h2⟩ := ints_lay ns
    simp only [List.map_cons, PyData.canLayAll0, PyData.depthAll, PyData.canLay0, PyData.depth, Bool.true_and]
    exact ⟨h1, Nat.max_le.mpr ⟨Nat.zero_le _, h2⟩⟩
theorem ints_shaped (ns : List Int) : SeqAt.shaped (.list (ns.map PyData.int)) = true := by
  obtain ⟨h1, h2⟩ := ints_lay ns
  show ((PyData.list (ns.map PyData.int)).canLay0 && decide ((PyData.list (ns.map PyData.int)).depth ≤ 64)) = true
  have d1 : (PyData.list (ns.map PyData.int)).canLay0 = true := by simpa [PyData.canLay0] using h1
  have d2 : (PyData.list (ns.map PyData.int)).depth ≤ 64 := by
    simp only [PyData.depth]
    exact Nat.le_trans (Nat.succ_le_succ h2) (by decide)
  rw [d1, decide_eq_true d2]
  rfl
theorem ints_empty : ∀ ns : List Int, PyData.eqv (.list (ns.map PyData.int)) (.list []) = ns.isEmpty
  | [] => by simp [PyData.eqv, PyData.eqvAll]
  | n :: ns => by simp [PyData.eqv, PyData.eqvAll]

/-- what the deck has become -/
structure DkAt (d l : Addr) (H H' : Hp) (m n : Int) (ns : List Int) : Prop where
  hd : H' d = some (deckO l m n)
  hl : H' l = some (.lst (ns.map V.int))
  kp : ∀ a o, H a = some o → a ≠ d → a ≠ l → H' a = some o
  st : ∀ a, H a ≠ none → H' a ≠ none
theorem DkAt.grow {F H' : Hp} {m' n' : Int} {ns' : List Int} (h0 : DeckAt (d, l) F H) (e : Same F H) (h : DkAt d l H H' m' n' ns') (hl : ns'.length ≤ 63) (h1 : 0 ≤ m') (h2 : m' < 2147483587) : Grow (some (d, l)) F H F H' ∧ DeckIn (some (d, l)) F H' := by
  refine ⟨⟨Same.refl F, fun a o q => h.kp a o (e a o q) (fun z => ?_) (fun z => ?_), fun a o q w => h.kp a o q (fun z => w ⟨_, rfl, .inl z⟩) fun z => w ⟨_, rfl, .inr z⟩, fun a q _ => q, h.st⟩, fun p hp => ?_⟩
  · have := h0.fd
    rw [← show a = d from z, q] at this
    cases this
  · have := h0.fl
    rw [← show a = l from z, q] at this
    cases this
  · cases hp
    exact ⟨h0.fd, h0.fl, h0.ne, ns', m', n', h.hd, h.hl, hl, h1, h2⟩
theorem mod_lt' {a b : Int} (h : 0 < b) : 0 ≤ a % b ∧ a % b < b := ⟨Int.emod_nonneg _ (by omega), Int.emod_lt_of_pos _ h⟩
theorem small64 {a : Int} (h1 : 0 ≤ a) (h2 : a < 4294967296) : -(2 ^ 64) < a ∧ a < 2 ^ 64 := by
  have e : (2 : Int) ^ 64 = 18446744073709551616 := by decide
  omega
theorem draw6 {D : Ends} {k z : Int} {y : Option V} (hz : 0 ≤ z ∧ z < 2147483399) (hk : 0 < k) (hQ : ∀ r, 0 ≤ r → r < k → D.rt (.int r) H) : tDraw6 D [some (.ref d), some (.int k), some (.int z), y] H := by
  refine ⟨_, rfl, _, _, rfl, rfl, .inl (small64 hz.1 (by omega)), .inl ⟨_, rfl, _, _, rfl, rfl, (by show (0 : Int) < 2147483647; decide), ?_⟩⟩
  refine ⟨_, rfl, _, _, rfl, rfl, ⟨by decide, by decide⟩, .inl ⟨_, rfl, _, rfl, _, _, rfl, rfl, hk, ?_⟩⟩
  exact hQ _ (mod_lt' hk).1 (mod_lt' hk).2
theorem draw5 {D : Ends} {k z : Int} {y : Option V} (hd : H d = some (deckO l m n)) (hz : 0 ≤ z ∧ z < 2147483563) (hk : 0 < k) (hQ : ∀ r, 0 ≤ r → r < k → D.rt (.int r) H) : tDraw5 D [some (.ref d), some (.int k), some (.int z), y] H :=
  ⟨_, rfl, _, rfl, _, _, rfl, rfl, .inl (small64 hz.1 (by omega)), _, rfl, _, _, rfl, dg_draws hd, _, _, rfl, rfl, .inl (small64 (by decide) (by decide)), _, _, rfl, rfl, _, _, rfl, rfl, .inl ⟨_, rfl, _, _, rfl, rfl, (by show (0 : Int) < 2147483399; decide), draw6 (mod_lt' (by decide)) hk hQ⟩⟩
theorem draw4 {D : Ends} {k z : Int} {y : Option V} (hd : H d = some (deckO l m n)) (hk : 0 < k) (hQ : ∀ r, 0 ≤ r → r < k → D.rt (.int r) H) : tDraw4 D [some (.ref d), some (.int k), some (.int z), y] H :=
  ⟨_, rfl, _, _, rfl, rfl, .inr (small64 (by decide) (by decide)), _, _, rfl, rfl, .inl ⟨_, rfl, _, _, rfl, rfl, (by show (0 : Int) < 2147483563; decide), draw5 hd (mod_lt' (by decide)) hk hQ⟩⟩
theorem draw_law {K : PySem.W.Frag} {c : Int} {D : Ends} {k : Int} {y1 y2 : Option V} (hc : -(2 ^ 64) < c ∧ c < 2 ^ 64) (hd : H d = some (deckO l m n)) (hl : H l = some (.lst (ns.map V.int))) (hdl : d ≠ l) (hn : ns.length ≤ 63) (hk : 0 < k) (hk2 : k < 2 ^ 62)
    (hQ : ∀ H' n' ns' r, DkAt d l H H' m n' ns' → ns'.length ≤ 63 → 0 ≤ r → r < k → D.rt (.int r) H') : tDraw c K D [some (.ref d), some (.int k), y1, y2] H := by
  refine ⟨_, rfl, _, _, rfl, dg_draws hd, _, _, rfl, rfl, _, rfl, _, _, rfl, dp_draws hd (n + 1), ?_⟩
  have hd1 : upd H d (deckO l m (n + 1)) d = some (deckO l m (n + 1)) := upd_same
  have hl1 : upd H d (deckO l m (n + 1)) l = some (.lst (ns.map V.int)) := by rw [upd_ne hdl.symm]; exact hl
  have k1 : ∀ a o, H a = some o → a ≠ d → a ≠ l → upd H d (deckO l m (n + 1)) a = some o := fun a o q z _ => by rw [upd_ne z]; exact q
  have s1 : ∀ a, H a ≠ none → upd H d (deckO l m (n + 1)) a ≠ none := fun a q => upd_keep q
  generalize upd H d (deckO l m (n + 1)) = H1 at hd1 hl1 k1 s1 ⊢
  refine ⟨_, rfl, _, _, rfl, dg_mixed hd1, _, rfl, _, _, rfl, dg_draws hd1, _, _, rfl, rfl, .inl hc, _, _, rfl, rfl, ?_⟩
  generalize m + c * (n + 1) = z
  refine ⟨_, rfl, _, _, rfl, dg_left hd1, Nat.zero_le _, fun p hp => ?_⟩
  have npd : d ≠ p := ne_of_none hd1 hp
  have npl : l ≠ p := ne_of_none hl1 hp
  have hd2 : upd H1 p (.lst []) d = some (deckO l m (n + 1)) := by rw [upd_ne npd]; exact hd1
  have hl2 : upd H1 p (.lst []) l = some (.lst (ns.map V.int)) := by rw [upd_ne npl]; exact hl1
  have k2 : ∀ a o, H a = some o → a ≠ d → a ≠ l → upd H1 p (.lst []) a = some o := fun a o q z z2 => by
    have w := k1 a o q z z2
    rw [upd_ne (ne_of_none w hp)]
    exact w
  have s2 : ∀ a, H a ≠ none → upd H1 p (.lst []) a ≠ none := fun a q => upd_keep (s1 a q)
  have hp2 : upd H1 p (.lst []) p = some (.lst []) := upd_same
  generalize upd H1 p (.lst []) = H2 at hd2 hl2 k2 s2 hp2 ⊢
  refine ⟨.list (ns.map PyData.int), .list [], .lst (SqL.of hl2) (dp_ints ns), .lst (SqL.of hp2) .nil, ints_shaped ns, by decide +kernel, _, rfl, ?_⟩
  rw [ints_empty]
  cases hns : ns.isEmpty with
  | true => exact draw4 hd2 hk fun r h1 h2 => hQ H2 (n + 1) ns r ⟨hd2, hl2, k2, s2⟩ hn h1 h2
  | false =>
    have hne : ns ≠ [] := by
      intro z
      rw [z] at hns
      cases hns
    obtain ⟨cs, cell, rfl⟩ : ∃ cs cell, ns = cs ++ [cell] := ⟨ns.dropLast, ns.getLast hne, (List.dropLast_concat_getLast hne).symm⟩
    have hcs : cs.length + 1 ≤ 63 := by simpa using hn
    have e0 : ((cs ++ [cell]).map V.int).dropLast = cs.map V.int := by simp
    refine ⟨_, rfl, _, _, rfl, dg_left hd2, .inl ⟨rfl, _, SqL.of hl2⟩, _, _, .int cell, rfl, rfl, hl2, by simp, ?_⟩
    rw [e0]
    have hd3 : upd H2 l (.lst (cs.map V.int)) d = some (deckO l m (n + 1)) := by rw [upd_ne hdl]; exact hd2
    have hl3 : upd H2 l (.lst (cs.map V.int)) l = some (.lst (cs.map V.int)) := upd_same
    have k3 : ∀ a o, H a = some o → a ≠ d → a ≠ l → upd H2 l (.lst (cs.map V.int)) a = some o := fun a o q z z2 => by rw [upd_ne z2]; exact k2 a o q z z2
    have s3 : ∀ a, H a ≠ none → upd H2 l (.lst (cs.map V.int)) a ≠ none := fun a q => upd_keep (s2 a q)
    generalize upd H2 l (.lst (cs.map V.int)) = H3 at hd3 hl3 k3 s3 ⊢
    refine ⟨_, rfl, _, _, rfl, rfl, ⟨by decide, by decide, by decide⟩, _, _, rfl, rfl, _, rfl, ?_⟩
    refine ite2 (fun hbig => ?_) (fun hbig => ?_)
    · skip
      have hmax : 0 < (if k > 2 then k else 2) ∧ (if k > 2 then k else 2) < 2 ^ 62 := by
        have e62 : (2 : Int) ^ 62 = 4611686018427387904 := by decide
        rw [e62] at hk2 ⊢
        split <;> omega
      refine ⟨_, rfl, _, _, rfl, dg_left hd3, .inl ⟨rfl, _, SqL.of hl3⟩, _, rfl, _, rfl, _, _, rfl, _, _, rfl, rfl, ⟨hmax.1, ?_⟩, _, _, _, rfl, rfl, hl3, by rw [List.length_map]; exact Nat.lt_of_le_of_lt (by omega : cs.length ≤ 63) (by decide), ?_⟩
      · have h9 : (if k > 2 then k else 2).natAbs < 2 ^ 62 := by
          have e62 : (2 : Int) ^ 62 = 4611686018427387904 := by decide
          have f62 : (2 : Nat) ^ 62 = 4611686018427387904 := by decide
          rw [e62] at hmax
          rw [f62]
          omega
        exact Nat.lt_of_le_of_lt (PySem.W.mg_log (k := 61) h9) (by decide)
      · refine ⟨_, rfl, .inl ⟨_, rfl, _, rfl, _, _, rfl, rfl, hk, ?_⟩⟩
        refine hQ _ (n + 1) (cs ++ [cell / (if k > 2 then k else 2)]) _ ⟨?_, ?_, fun a o q z z2 => ?_, fun a q => upd_keep (s3 a q)⟩ (by simpa using hcs) (mod_lt' hk).1 (mod_lt' hk).2
        · rw [upd_ne hdl]; exact hd3
        · rw [upd_same]; simp
        · rw [upd_ne z2]; exact k3 a o q z z2
    · refine ⟨_, rfl, _, rfl, .inl ⟨_, rfl, _, _, rfl, rfl, (by show (0 : Int) < 2147483629; decide), _, _, rfl, rfl, ?_⟩⟩
      exact draw4 hd3 hk fun r h1 h2 => hQ H3 (n + 1) cs r ⟨hd3, hl3, k3, s3⟩ (by omega) h1 h2
end
/-- what drawing keeps -/
def spDraw : DSp := fun W ds Q _ => ∃ d l k, W = some (d, l) ∧ ds = [.opq (.ref d), .int k] ∧ 0 < k ∧ k < 2 ^ 62 ∧ ∀ r, 0 ≤ r → r < k → Q (.int r)
theorem okDraw {P : Program} {w : World} {K : PySem.W.Frag} {mg : Str → Option Value} {base : Heap} {x qual : Str} {st : Stmt} {f : Addr} {fd : FuncData} {N ps : List Str} {c : Int} (F : Fun K x qual st f fd) (S : FnScope N ps (defScope st)) (hN : N.length = 4) (hp : ps.length = 2) (hc : -(2 ^ 64) < c ∧ c < 2 ^ 64)
    (body : ∀ (cdv : Value) (A : Around) (outer : List Env) (s : Shared) (H : Hp) (E : XK), Room 0 (A.deeper (envOfC qual (defScope st) s.heap.objs.size f cdv)) → PSs (cxD P w K mg base N qual st f cdv A outer s H E) (defBody st) (tDraw c K)) : FnOk P w K mg base (L2.CX P w) 1 f fd ps (liftSp ⟨K, mg⟩ spDraw) := by
  refine F.okX S (fun vs H Q E ⟨W, F, ds, Qd, Rd, h1, h2, h3, ⟨d, l, k, _, h4, _⟩, _⟩ => ?_) fun cdv A outer s H vs Q E hr ⟨W, F, ds, Qd, Rd, h1, h2, h3, ⟨d, l, k, hW, hds, hk, hk2, hq⟩, h5, h6⟩ => ?_
  · rw [h3.length, h4, hp]
    rfl
  · refine ⟨_, body cdv A outer s H E hr, ?_⟩
    subst hds hW
    obtain ⟨v1, v2, rfl, r1, r2⟩ : ∃ v1 v2, vs = [v1, v2] ∧ Rep ⟨K, mg⟩ F v1 (.opq (.ref d)) ∧ Rep ⟨K, mg⟩ F v2 (.int k) := by
      cases h3 with
      | cons a t =>
        cases t with
        | cons b t =>
          cases t
          exact ⟨_, _, rfl, a, b⟩
    cases r1
    cases r2
    have dk := h2 _ rfl
    obtain ⟨ns, m, n, e1, e2, e3, e4, e5⟩ := dk.st
    have es : L2.start N [V.ref d, V.int k] = [some (.ref d), some (.int k), none, none] := by
      unfold L2.start
      rw [hN]
      rfl
    rw [es]
    exact draw_law hc e1 e2 dk.ne e3 hk hk2 fun H' n' ns' r z hl hr0 hr1 => by
      obtain ⟨g, dk'⟩ := z.grow dk h1 hl e4 e5
      exact h5 _ (hq r hr0 hr1) F H' _ g dk' (.int r)
end ND

/-! ND10: making the deck; the law's own def -/
namespace ND
open PySem PySem.Spec L2
open PyProof.Rows (envOfC)

abbrev sL (K : PySem.W.Frag) : TE := tSl (rSlL K) (tVar 0) tNoPart (tPart (tC (V.int 63)))
abbrev tDeck (c : Int) (K : PySem.W.Frag) : TS :=
  tSeq (tAsg (tC (V.int c)) (gName 1))
  (tSeq (tFor (iList K (sL K)) (gName 2) (tAsg (rP (iM (tCons (aP (aP (mP (tVar 1) (tC (V.int 48271))) (rP (iM (tCons (tVar 2) tNil)) (tC (V.int 2147483629)))) (tC (V.int 89))) tNil)) (tC (V.int 2147483587))) (gName 1)))
  (tRet (tDisp [(tC (V.str "left"), tRevL K (tCB (fun xs H Q => ∃ p ys, xs = [V.ref p] ∧ (SqL K H p ys ∨ SqT K H p ys) ∧ ∀ l, H l = none → Q (V.ref l) (upd H l (.lst ys))) (tCons (sL K) tNil))), (tC (V.str "mixed"), tVar 1), (tC (V.str "draws"), tC (V.int 0))])))
theorem cut_ints (ns : List Int) (lo hi : Option Int) (h : ns.length ≤ 63) : ∃ ms : List Int, cutV (ns.map V.int) lo hi = ms.map V.int ∧ ms.length ≤ 63 := by
  refine ⟨(ns.drop (HT.sIx (ns.map V.int).length 0 lo)).take (HT.sIx (ns.map V.int).length (ns.map V.int).length hi - HT.sIx (ns.map V.int).length 0 lo), ?_, ?_⟩
  · unfold cutV
    rw [List.map_take, List.map_drop]
  · rw [List.length_take, List.length_drop]
    omega
theorem merge_deck (l : Addr) (m n : Int) : mergeK [] [((Sum.inr "left" : Key), V.ref l), (Sum.inr "mixed", V.int m), (Sum.inr "draws", V.int n)] = [((Sum.inr "left" : Key), V.ref l), (Sum.inr "mixed", V.int m), (Sum.inr "draws", V.int n)] := by
  have a1 := kl_m
  have a2 := kl_d
  have a3 := km_d
  simp [mergeK, putK, a1, a2, a3]
section
variable {K : PySem.W.Frag} {H : Hp} {a : Addr} {ns : List Int} {c : Int} {D : Ends}
theorem deck_law (hc : 0 ≤ c ∧ c < 2147483587) (hS : SqL K H a (ns.map V.int)) (hn : ns.length ≤ 63)
    (hQ : ∀ (H' : Hp) (d l : Addr) (m : Int) (ns' : List Int), Same H H' → H d = none → H l = none → d ≠ l → H' d = some (deckO l m 0) → H' l = some (.lst (ns'.map V.int)) → ns'.length ≤ 63 → 0 ≤ m → m < 2147483587 → D.rt (.ref d) H') :
    tDeck c K D [some (.ref a), none, none] H := by
  obtain ⟨ms, em, hm⟩ := cut_ints ns none (some 63) hn
  refine ⟨_, rfl, _, rfl, a, _, rfl, hS, fun p hp => ⟨p, rfl, ⟨_, SqL.of upd_same⟩, ?_⟩⟩
  have hSp : Same H (upd H p (.lst (ms.map V.int))) := same_new hp
  rw [em]
  refine for_list (K := K) (a := p) (xs := ms.map V.int) (fun i σ H' => H' = upd H p (.lst (ms.map V.int)) ∧ ∃ m v, σ = [some (.ref a), some (.int m), v] ∧ 0 ≤ m ∧ m < 2147483587) ⟨rfl, c, none, rfl, hc⟩ (fun i σ H' _ ⟨e, _⟩ => by rw [e]; exact SqL.of upd_same) ?_ ?_
  · rintro i y σ H' hi ⟨rfl, m, v, rfl, h1, h2⟩
    obtain ⟨z, rfl⟩ : ∃ z, y = V.int z := by
      obtain ⟨z, _, e⟩ := List.mem_map.mp (List.mem_of_getElem? hi)
      exact ⟨z, e.symm⟩
    exact ⟨_, rfl, _, _, rfl, rfl, .inr (small64 (by decide) (by decide)), _, rfl, .inl ⟨_, rfl, _, _, rfl, rfl, (by show (0 : Int) < 2147483629; decide), _, _, rfl, rfl, _, _, rfl, rfl, .inl ⟨_, rfl, _, _, rfl, rfl, (by show (0 : Int) < 2147483587; decide), rfl, _, _, rfl, mod_lt' (by decide)⟩⟩⟩
  · rintro σ H' ⟨rfl, m, v, rfl, h1, h2⟩
    generalize upd H p (.lst (ms.map V.int)) = H1 at hSp
    intro d hd
    have hS1 : Same H1 (upd H1 d (.dK [])) := same_new hd
    have hd2 : upd H1 d (.dK []) d = some (.dK []) := upd_same
    have d0 := hSp.free hd
    have hS' := hSp.trans hS1
    generalize upd H1 d (.dK []) = H2 at hd2 hS'
    refine ⟨_, rfl, _, rfl, a, _, rfl, hS'.seq hS, fun q hq => ?_⟩
    have hd3 : upd H2 q (.lst (cutV (ns.map V.int) none (some 63))) d = some (.dK []) := by rw [upd_ne (ne_of_none hd2 hq)]; exact hd2
    have hS3 := hS'.trans (same_new (o := .lst (cutV (ns.map V.int) none (some 63))) hq)
    have hq3 : upd H2 q (.lst (cutV (ns.map V.int) none (some 63))) q = some (.lst (cutV (ns.map V.int) none (some 63))) := upd_same
    generalize upd H2 q (.lst (cutV (ns.map V.int) none (some 63))) = H3 at hd3 hS3 hq3
    refine ⟨q, _, rfl, .inl (SqL.of hq3), fun r hr => ?_⟩
    rw [em] at hq3 ⊢
    have hd4 : upd H3 r (.lst (ms.map V.int)) d = some (.dK []) := by rw [upd_ne (ne_of_none hd3 hr)]; exact hd3
    have hS4 := hS3.trans (same_new (o := .lst (ms.map V.int)) hr)
    have hr4 : upd H3 r (.lst (ms.map V.int)) r = some (.lst (ms.map V.int)) := upd_same
    generalize upd H3 r (.lst (ms.map V.int)) = H4 at hd4 hS4 hr4
    refine ⟨r, _, rfl, SqL.of hr4, fun l hl => ?_⟩
    have ndl : d ≠ l := ne_of_none hd4 hl
    have l0 := hS4.free hl
    have er : (ms.map V.int).reverse = (ms.reverse).map V.int := by rw [List.map_reverse]
    rw [er]
    refine ⟨_, rfl, by rw [upd_ne ndl]; exact hd4, [(.inr "left", .ref l), (.inr "mixed", .int m), (.inr "draws", .int 0)], rfl, (by show 3 ≤ 15; decide), ?_⟩
    rw [merge_deck]
    refine hQ _ d l m ms.reverse (fun b o e => ?_) d0 l0 ndl upd_same (by rw [upd_ne ndl.symm]; exact upd_same) (by simpa using hm) h1 h2
    have nb : b ≠ d := fun z => by rw [z, d0] at e; cases e
    rw [upd_ne nb]
    have nb2 : b ≠ l := fun z => by rw [z, l0] at e; cases e
    rw [upd_ne nb2]
    exact hS4 _ _ e
end
/-- a new deck -/
def spDeck (K : PySem.W.Frag) : Sp := fun vs H Q _ => ∃ (a : Addr) (ns : List Int), vs = [.ref a] ∧ SqL K H a (ns.map V.int) ∧ ns.length ≤ 63 ∧ ∀ H' d l, Same H H' → H d = none → H l = none → DeckAt (d, l) (fun _ => none) H' → Q (.ref d) H'
theorem okDeck {P : Program} {w : World} {K : PySem.W.Frag} {mg : Str → Option Value} {base : Heap} {x qual : Str} {st : Stmt} {f : Addr} {fd : FuncData} {N ps : List Str} {c : Int} (F : Fun K x qual st f fd) (S : FnScope N ps (defScope st)) (hN : N.length = 3) (hp : ps.length = 1) (hc : 0 ≤ c ∧ c < 2147483587)
    (body : ∀ (cdv : Value) (A : Around) (outer : List Env) (s : Shared) (H : Hp) (E : XK), Room 0 (A.deeper (envOfC qual (defScope st) s.heap.objs.size f cdv)) → PSs (cxD P w K mg base N qual st f cdv A outer s H E) (defBody st) (tDeck c K)) : FnOk P w K mg base (L2.CX P w) 1 f fd ps (spDeck K) := by
  refine F.okX S (fun vs H Q E ⟨a, ns, h1, _⟩ => ?_) fun cdv A outer s H vs Q E hr ⟨a, ns, h1, h2, h3, h4⟩ => ⟨_, body cdv A outer s H E hr, ?_⟩
  · rw [h1, hp]
    rfl
  · subst h1
    have es : L2.start N [V.ref a] = [some (.ref a), none, none] := by
      unfold L2.start
      rw [hN]
      rfl
    rw [es]
    exact deck_law hc h2 h3 fun H' d l m ns' s1 d0 l0 ndl e1 e2 hl m0 m1 => h4 H' d l s1 d0 l0 ⟨rfl, rfl, ndl, ns', m, 0, e1, e2, hl, m0, m1⟩

/-! ### the law: its first statement makes the deck -/
def hp0 : Hp := fun _ => none
theorem pss_deck {X : Cx} {rest : List Stmt} {g : WD → GS} (h : ∀ p H0, SDs ⟨some p, hp0, H0⟩ X rest (g (some p))) : PSs X rest fun Dn s H => ∃ p H0, LS ⟨some p, hp0, H0⟩ X.kn (g (some p)) Dn s H :=
  ⟨fun pins s σ H Dn I ⟨p, H0, q⟩ => (h p H0).run.run pins s σ H Dn I q⟩
/-- what the law promises -/
def spLaw (K : PySem.W.Frag) : Sp := fun vs H Q _ => ∃ (a : Addr) (script : List Int), vs = [.ref a] ∧ SqL K H a (script.map V.int) ∧ script.length ≤ 63 ∧ ∀ G, Q (.bl true) G
theorem okLaw {P : Program} {w : World} {K : PySem.W.Frag} {mg : Str → Option Value} {base : Heap} {x qual : Str} {st s0 : Stmt} {rest : List Stmt} {f : Addr} {fd : FuncData} {N : List Str} {y : Str} {k : Nat} {g : WD → GS} (F : Fun K x qual st f fd) (S : FnScope N [y] (defScope st)) (hN : 1 < N.length)
    (hst : defBody st = s0 :: rest)
    (body : ∀ (cdv : Value) (A : Around) (outer : List Env) (s : Shared) (H : Hp) (E : XK), (A.deeper (envOfC qual (defScope st) s.heap.objs.size f cdv)).guards = some [] → Room k (A.deeper (envOfC qual (defScope st) s.heap.objs.size f cdv)) →
      PassesOwn (model P w) (cxD P w K mg base N qual st f cdv A outer s H E).A (cxD P w K mg base N qual st f cdv A outer s H E).env (cxD P w K mg base N qual st f cdv A outer s H E).xe →
      Passes (L2.CX P w) (cxD P w K mg base N qual st f cdv A outer s H E) E →
      PS (cxD P w K mg base N qual st f cdv A outer s H E) s0 (tAsg (tCall (spDeck K) [] E (tCons (tVar 0) tNil)) (gName 1)) ∧
      ∀ p H0, SDs ⟨some p, hp0, H0⟩ (cxD P w K mg base N qual st f cdv A outer s H E) rest (g (some p)))
    (law : ∀ (d l : Addr) (v : V), g (some (d, l)) (endsD fun r => r = .bl true) (.d (.opq v) :: .d (.opq (.ref d)) :: List.replicate (N.length - 2) .no)) : FnG P w K mg base (k + 1) f fd [y] (spLaw K) := by
  obtain ⟨oc, od, kV, doc, pm, an, cdv, ct, osl, rfl, lk, hcd⟩ := F.ex
  refine fn_ofG lk hcd S (fun vs H Q E ⟨a, ns, h1, _⟩ => by rw [h1]; rfl) fun A outer s H vs Q E hG hr ⟨a, ns, h1, h2, h3, h4⟩ => ?_
  subst h1
  obtain ⟨b1, b2⟩ := body cdv A outer s H E hG hr (passes_of rfl) (passes_call (takes_of rfl rfl rfl rfl) fun _ _ _ _ z => z)
  have b3 := pss_cons b1 (pss_deck b2)
  rw [← hst] at b3
  refine ⟨_, b3, ?_⟩
  have es : L2.start N [V.ref a] = some (.ref a) :: none :: List.replicate (N.length - 2) none := by
    unfold L2.start
    obtain ⟨m, hm⟩ : ∃ m, N.length = m + 2 := ⟨N.length - 2, by omega⟩
    rw [hm]
    rfl
  rw [es]
  refine ⟨_, rfl, a, ns, rfl, h2, h3, fun H' d l s1 d0 l0 dk => ?_⟩
  refine ⟨(d, l), H', .d (.opq (.ref a)) :: .d (.opq (.ref d)) :: List.replicate (N.length - 2) .no, hp0, endsD fun r => r = .bl true, ?_, law d l (.ref a), ?_⟩
  · have dki : DeckIn (some (d, l)) hp0 H' := fun p hp => by cases hp; exact dk
    refine ⟨Grow.refl fun _ _ z => (nomatch z), dki, dki, by simp, fun _ => none, ⟨fun i j a z => (nomatch z), fun i a z => (nomatch z)⟩, fun i z v e1 e2 => ?_⟩
    match i with
    | 0 =>
      simp only [List.getElem?_cons_zero, Option.some.injEq] at e1
      have e2' : some (some (V.ref a)) = some v := e2
      cases e2'
      subst e1
      exact .opq _
    | 1 =>
      have e1' : some (SV.d (.opq (.ref d))) = some z := e1
      have e2' : some (some (V.ref d)) = some v := e2
      cases e1'
      cases e2'
      exact .opq _
    | i + 2 =>
      have e1' : (List.replicate (N.length - 2) SV.no)[i]? = some z := e1
      have e2' : (List.replicate (N.length - 2) (none : Option V))[i]? = some v := e2
      have h1 := List.eq_of_mem_replicate (List.mem_of_getElem? e1')
      have h2 := List.eq_of_mem_replicate (List.mem_of_getElem? e2')
      subst h1 h2
      exact True.intro
  · refine ⟨fun _ _ _ _ _ _ z => ?_, fun r v F' H2 _ _ _ rv e => ?_, fun _ _ _ _ _ _ z => z.elim, fun _ _ _ _ _ _ z => z.elim⟩
    · cases (show D.non = .bl true from z)
    · subst e
      cases rv
      exact h4 _
end ND

/-! ND11: the end of a law, from FnG -/
namespace ND
open PySem PySem.Spec L2 PyProof.Rows
open PyProof.Rows (envOfC)

/-- the script alone is tracked, if it is not of the written part -/
def scH (K : PySem.W.Frag) (a : Addr) (o : Obj) (ns : List Int) : Hp := fun b => if b = a ∧ K.lookup a = none then some (.frz o (.lst (ns.map V.int))) else none
theorem scH_some {K : PySem.W.Frag} {a b : Addr} {o : Obj} {ns : List Int} {u : HO} (h : scH K a o ns b = some u) : b = a ∧ K.lookup a = none ∧ u = .frz o (.lst (ns.map V.int)) := by
  unfold scH at h
  split at h
  · rename_i c
    cases h
    exact ⟨c.1, c.2, rfl⟩
  · cases h
theorem scH_none {K : PySem.W.Frag} {a b : Addr} {o : Obj} {ns : List Int} (h : b = a → K.lookup a ≠ none) : scH K a o ns b = none := by
  unfold scH
  rw [if_neg fun c => h c.1 c.2]
theorem run_law {P : Program} {w : World} {K : PySem.W.Frag} {mg mb : Str → Option Value} {k : Nat} {fa a : Addr} {fd : FuncData} {x : Str} {sp : Sp} {t : Shared} {vs : List Value} {ns : List Int}
    (KX : K.In t.heap) (nsM : t.heap.Ns mainGlobals mg) (nsB : t.heap.Ns builtinsNs mb) (bb : ∀ y : Str, y ≠ "__name__" → mb y = bootBuiltins y) (lim : t.heap.NoLimit) (gens : t.gens = #[])
    (ha : t.heap.get? a = some { cls := .type "list", data := .seq vs.toArray }) (hi : IntsAre vs ns) (hl : ns.length ≤ sizeLine) (room : Room k callerA)
    (G : ∀ base : Heap, K.In base → base.Ns mainGlobals mg → FnG P w K mg base k fa fd [x] sp) (bind : ∀ (s : Shared) (u : Value), BindsTo s fd ⟨[u], []⟩ [(x, u)])
    (ask : ∀ H : Hp, SqL K H a (ns.map V.int) → sp [.ref a] H (fun v _ => v = .bl true) fun _ _ _ => False) :
    codeAny (model P w) callerA (.call (.ref fa) ⟨[.ref a], []⟩) (fun r s' => r = .ok (.ret (.bool true)) ∧ OldK t.heap s'.heap ∧ s'.os = t.os ∧ AllBare s'.gens) t := by
  have vals := vals_ints hi
  have sameLen := hi.length
  generalize hH : scH K a { cls := .type "list", data := .seq vs.toArray } ns = H
  have inH : ∀ {b : Addr} {u : HO}, H b = some u → b = a ∧ K.lookup a = none ∧ u = .frz { cls := .type "list", data := .seq vs.toArray } (.lst (ns.map V.int)) := fun e => by
    rw [← hH] at e
    exact scH_some e
  have outH : ∀ {b : Addr}, (b = a → K.lookup a ≠ none) → H b = none := fun e => by
    rw [← hH]
    exact scH_none e
  have seqA : SqL K H a (ns.map V.int) := by
    cases ek : K.lookup a with
    | none =>
      refine .inl (.inr ⟨{ cls := .type "list", data := .seq vs.toArray }, ?_⟩)
      rw [← hH]
      unfold scH
      rw [if_pos ⟨rfl, ek⟩]
    | some o =>
      have same := KX a o ek
      rw [ha] at same
      cases same
      exact .inr ⟨_, vs.toArray, _, ek, rfl, rfl, rfl, by rw [List.size_toArray, sameLen]; exact hl, by simpa using vals⟩
  have okH : HOk P w H t.heap := fun b u e => by
    obtain ⟨rfl, _, rfl⟩ := inH e
    exact ⟨ha, by rw [List.length_map]; exact hl, vs, _, vals, ha⟩
  have stays : ∀ {b : Addr} {o : Obj}, t.heap.get? b = some o → H b = none → (hidT t.heap H).get? b = some o := fun e n => hidT_get e n
  have nsStays : ∀ {b : Addr} {m : Str → Option Value}, t.heap.Ns b m → (hidT t.heap H).Ns b m := fun {b m} ⟨o, es, ep, e, dt, r⟩ => by
    refine ⟨o, es, ep, stays e ?_, dt, r⟩
    cases q : H b with
    | none => rfl
    | some u =>
      obtain ⟨rfl, _, _⟩ := inH q
      rw [ha] at e
      cases e
      exact absurd (show Data.seq vs.toArray _ = Data.dict es ep from dt) (by intro z; cases z)
  have kIn : K.In (hidT t.heap H) := fun b o e => stays (KX b o e) (outH fun z => by
    subst z
    rw [e]
    exact Option.some_ne_none _)
  obtain ⟨mc, l1, l2⟩ := lim
  have env : Env0 P w K mg (hidT t.heap H) callerA [] t H := ⟨rfl, ⟨kIn, nsStays nsM, ⟨mb, nsStays nsB, bb⟩, mc, nsStays l1, l2⟩, fun b o e => of_hidT e, Nat.le_of_eq (hidT_size _ _), trivial, fun b hb => (nomatch hb), okH, .of_eq gens⟩
  have run := (G _ kIn (nsStays nsM)).run callerA [] t H ⟨[.ref a], []⟩ [.ref a] [.ref a] _ _ rfl room env (bind t (.ref a)) (.cons rfl .nil) (ask H seqA)
  refine codeAny_mono run fun r s' h => ?_
  rcases r with e | fl
  · obtain ⟨_, _, _, _, _, _, _, _, _, _, _, _, no⟩ := (show L2.CX P w [] H t (fun _ _ _ => False) e s' from h)
    exact no.elim
  · cases fl with
    | ret u =>
      obtain ⟨v, H', os, bare, un, hok', r', q⟩ := h
      have q' : v = .bl true := q
      subst q'
      obtain rfl : u = Value.bool true := r'
      refine ⟨rfl, OldK.of_keep fun b o e => ?_, os, bare⟩
      cases q : H b with
      | none => exact un.keep b o e q (fun z => (nomatch z)) (by simp)
      | some u =>
        obtain ⟨rfl, _, rfl⟩ := inH q
        obtain ⟨g1, _⟩ := hok' b _ (un.frzs b _ _ q)
        rw [ha] at e
        cases e
        exact g1
    | next => exact False.elim h
    | brk => exact False.elim h
    | cont => exact False.elim h
theorem walkG {l : PySem.W.OpenLaw} {k : Nat} {q : Program} {loose : List Str} {XP : (Str → Option Value) → Heap → Prop} {YP : World → Heap → Prop} {d : DefRec} {K : Params → PySem.W.Frag} {x : Str}
    (hn : l.most = some 63) (hdf : d.params.defaults = []) (hr : Room k callerA) (hY : ∀ (w : World) (h : Heap), YP w h → (K w.params).In h)
    (G : ∀ (w : World) (mg : Str → Option Value) (fa : Addr) (h : Heap), (K w.params).In h → h.Ns mainGlobals mg → mg d.name = some (.ref fa) →
      ∃ fd : FuncData, (∀ (s : Shared) (u : Value), BindsTo s fd ⟨[u], []⟩ [(x, u)]) ∧ ∀ base : Heap, (K w.params).In base → base.Ns mainGlobals mg → FnG l.prog w (K w.params) mg base k fa fd [x] (spLaw (K w.params))) :
    PySem.W.WalkO q loose XP YP l.row.toRowW d [] (fun f vs => PySem.call f vs) := by
  refine Att.attach_callB hn hdf fun w s₀ t mg mb fa o pm cd doc a vs ns Gd Y ho hd hcd hmg hobj hints hlen hbits hg => ?_
  have inK := hY w _ Y
  obtain ⟨fd, bind, run⟩ := G w mg fa _ inK Gd.T.g hmg
  exact run_law inK Gd.T.g Gd.T.b Gd.T.builtins Gd.T.nolimit hg hobj hints (Nat.le_trans hlen (by decide)) hr run bind fun H hS => ⟨a, ns, rfl, hS, hlen, fun _ => rfl⟩
theorem hu65_of {A : Around} {k : Nat} (hr : Room k A) : A.units + 65 < cLine := by have := hr.un; omega
end ND
namespace ND
open PySem PySem.Spec L2
/-! ### for the plain laws -/
@[simp] theorem addD_i (i j : Int) (Q : D → Prop) : addD (.int i) (.int j) Q = Q (.int (i + j)) := rfl
@[simp] theorem addD_s (i j : Str) (Q : D → Prop) : addD (.str i) (.str j) Q = (i.length + j.length ≤ sizeLine ∧ Q (.str (i ++ j))) := rfl
@[simp] theorem addD_t (i j : List D) (Q : D → Prop) : addD (.tup i) (.tup j) Q = (i.length + j.length ≤ sizeLine ∧ Q (.tup (i ++ j))) := rfl
@[simp] theorem addD_l (i j : List D) (Q : D → Prop) : addD (.lst i) (.lst j) Q = (i.length + j.length ≤ sizeLine ∧ Q (.lst (i ++ j))) := rfl
@[simp] theorem subD_i (i j : Int) (Q : D → Prop) : subD (.int i) (.int j) Q = Q (.int (i - j)) := rfl
@[simp] theorem mulD_i (i j : Int) (Q : D → Prop) : mulD (.int i) (.int j) Q = (ND.MulOk i j ∧ Q (.int (i * j))) := rfl
@[simp] theorem fdivD_i (i j : Int) (Q : D → Prop) : fdivD (.int i) (.int j) Q = (0 < j ∧ j.natAbs.log2 < 9000 ∧ Q (.int (i / j))) := rfl
@[simp] theorem modD_i (i j : Int) (Q : D → Prop) : modD (.int i) (.int j) Q = (0 < j ∧ Q (.int (i % j))) := rfl
@[simp] theorem powD_i (i j : Int) (Q : D → Prop) : powD (.int i) (.int j) Q = (0 ≤ j ∧ j ≤ 1000000 ∧ i.natAbs < 2 ^ 64 ∧ Q (.int (i ^ j.toNat))) := rfl
@[simp] theorem negD_i (i : Int) (Q : D → Prop) : negD (.int i) Q = Q (.int (-i)) := rfl
@[simp] theorem ltD_i (i j : Int) (Q : D → Prop) : ltD (.int i) (.int j) Q = Q (.bl (decide (i < j))) := rfl
@[simp] theorem leD_i (i j : Int) (Q : D → Prop) : leD (.int i) (.int j) Q = Q (.bl (decide (i ≤ j))) := rfl
@[simp] theorem gtD_i (i j : Int) (Q : D → Prop) : gtD (.int i) (.int j) Q = Q (.bl (decide (j < i))) := rfl
@[simp] theorem geD_i (i j : Int) (Q : D → Prop) : geD (.int i) (.int j) Q = Q (.bl (decide (j ≤ i))) := rfl
@[simp] theorem truthD_b (i : Bool) (Q : Bool → Prop) : truthD (.bl i) Q = Q i := rfl
@[simp] theorem truthD_n (Q : Bool → Prop) : truthD .non Q = Q false := rfl
@[simp] theorem truthD_i (i : Int) (Q : Bool → Prop) : truthD (.int i) Q = Q (i != 0) := rfl
@[simp] theorem truthD_t (i : List D) (Q : Bool → Prop) : truthD (.tup i) Q = Q (!i.isEmpty) := rfl
@[simp] theorem truthD_l (i : List D) (Q : Bool → Prop) : truthD (.lst i) Q = Q (!i.isEmpty) := rfl
@[simp] theorem lenD_l (i : List D) (Q : D → Prop) : lenD [.lst i] Q = Q (.int i.length) := rfl
@[simp] theorem lenD_t (i : List D) (Q : D → Prop) : lenD [.tup i] Q = Q (.int i.length) := rfl
@[simp] theorem lenD_s (x : Str) (Q : D → Prop) : lenD [.str x] Q = (x.length ≤ sizeLine ∧ Q (.int x.length)) := rfl
@[simp] theorem intD_i (i : Int) (Q : D → Prop) : intD [.int i] Q = Q (.int i) := rfl
@[simp] theorem intD_b (i : Bool) (Q : D → Prop) : intD [.bl i] Q = Q (.int (if i = true then 1 else 0)) := rfl
@[simp] theorem intD_s (x : Str) (Q : D → Prop) : intD [.str x] Q = (∃ n, intText? x = some n ∧ x.length ≤ 640 ∧ Q (.int n)) := rfl
@[simp] theorem absD_i (i : Int) (Q : D → Prop) : absD [.int i] Q = Q (.int (if i < 0 then -i else i)) := rfl
@[simp] theorem max2D_i (i j : Int) (Q : D → Prop) : max2D [.int i, .int j] Q = Q (.int (if j > i then j else i)) := rfl
@[simp] theorem min2D_i (i j : Int) (Q : D → Prop) : min2D [.int i, .int j] Q = Q (.int (if j < i then j else i)) := rfl
@[simp] theorem gcdD_i (i j : Int) (Q : D → Prop) : gcdD [.int i, .int j] Q = Q (.int ((Nat.gcd i.natAbs j.natAbs : Nat) : Int)) := rfl
@[simp] theorem isqrtD_i (i : Int) (Q : D → Prop) : isqrtD [.int i] Q = (0 ≤ i ∧ i.toNat.log2 < 13000 ∧ Q (.int ((Float64.isqrt i.toNat : Nat) : Int))) := rfl
@[simp] theorem isiD_t (x : D) (T : String) (Q : D → Prop) : isiD [x, .opq (.ty T)] Q = (knownT T = true ∧ (tyD x).isSome = true ∧ Q (.bl (isiB T x))) := rfl
@[simp] theorem reprD_x (x : D) (Q : D → Prop) : reprD [x] Q = (pl 64 x = true ∧ (toPy x).showable = true ∧ (toPy x).shown.length ≤ sizeLine ∧ Q (.str (toPy x).shown)) := rfl
@[simp] theorem repS_i (x : Str) (k : Int) (Q : D → Prop) : repS (.str x) (.int k) Q = (1 ≤ k ∧ x.length * k.toNat ≤ sizeLine ∧ x.length ≠ 0 ∧ Q (.str (Txt.mul x k))) := rfl
@[simp] theorem eqD_s (a b : Str) (Q : D → Prop) : eqD (.str a) (.str b) Q = Q (.bl (decide (a = b))) := rfl
@[simp] theorem neD_s (a b : Str) (Q : D → Prop) : neD (.str a) (.str b) Q = Q (.bl (!decide (a = b))) := rfl
@[simp] theorem eqD_l (a : List D) (y : D) (Q : D → Prop) : eqD (.lst a) y Q = (pl 64 (.lst a) = true ∧ pl 64 y = true ∧ Q (.bl (eqb (.lst a) y))) := rfl
@[simp] theorem neD_l (a : List D) (y : D) (Q : D → Prop) : neD (.lst a) y Q = (pl 64 (.lst a) = true ∧ pl 64 y = true ∧ Q (.bl (!eqb (.lst a) y))) := rfl
@[simp] theorem eqD_t (a : List D) (y : D) (Q : D → Prop) : eqD (.tup a) y Q = (pl 64 (.tup a) = true ∧ pl 64 y = true ∧ Q (.bl (eqb (.tup a) y))) := rfl
@[simp] theorem neD_t (a : List D) (y : D) (Q : D → Prop) : neD (.tup a) y Q = (pl 64 (.tup a) = true ∧ pl 64 y = true ∧ Q (.bl (!eqb (.tup a) y))) := rfl
@[simp] theorem knInt : knownT "int" = true := by decide
@[simp] theorem knBool : knownT "bool" = true := by decide
@[simp] theorem knTup : knownT "tuple" = true := by decide
@[simp] theorem knList : knownT "list" = true := by decide
@[simp] theorem knStr : knownT "str" = true := by decide
@[simp] theorem knDict : knownT "dict" = true := by decide
@[simp] theorem eqb_int (i j : Int) : eqb (.int i) (.int j) = decide (i = j) := by simp [eqb, toPy, PyData.eqv, BEq.beq]
@[simp] theorem eqb_str (i j : Str) : eqb (.str i) (.str j) = decide (i = j) := by
  simp only [eqb, toPy, PyData.eqv]
  rw [Bool.eq_iff_iff]
  simp
@[simp] theorem eqb_nil : eqb (.lst []) (.lst []) = true := by decide +kernel
@[simp] theorem pl_int (n : Nat) (i : Int) : pl n (.int i) = true := by cases n <;> simp [pl]
@[simp] theorem pl_bl (n : Nat) (i : Bool) : pl n (.bl i) = true := by cases n <;> simp [pl]
@[simp] theorem pl_non (n : Nat) : pl n .non = true := by cases n <;> simp [pl]
@[simp] theorem eqD_i (i j : Int) (Q : D → Prop) : eqD (.int i) (.int j) Q = Q (.bl (decide (i = j))) := by
  show (pl 64 (.int i) = true ∧ pl 64 (.int j) = true ∧ Q (.bl (eqb (.int i) (.int j)))) = _
  simp
@[simp] theorem neD_i (i j : Int) (Q : D → Prop) : neD (.int i) (.int j) Q = Q (.bl (!decide (i = j))) := by
  show (pl 64 (.int i) = true ∧ pl 64 (.int j) = true ∧ Q (.bl (!eqb (.int i) (.int j)))) = _
  simp
@[simp] theorem ix_t3_0 (a b c : D) (Q : D → Prop) : ixD (.tup [a, b, c]) (.int 0) Q = Q a := by simp [ixD, atI, ixN]
@[simp] theorem ix_t3_1 (a b c : D) (Q : D → Prop) : ixD (.tup [a, b, c]) (.int 1) Q = Q b := by simp [ixD, atI, ixN]
@[simp] theorem ix_t3_2 (a b c : D) (Q : D → Prop) : ixD (.tup [a, b, c]) (.int 2) Q = Q c := by simp [ixD, atI, ixN]
@[simp] theorem lineLe (n : Nat) (h : n ≤ 1000 := by decide) : n ≤ sizeLine ↔ True := ⟨fun _ => trivial, fun _ => Nat.le_trans h (by decide)⟩
end ND
namespace K07
open PySem PySem.Spec L2 ND
open PyProof.Rows (envOfC)
def top (i : Nat) : Stmt := PySem.Challenge.pw_nevertwice_k07_signs_order_and_integers.main.body.getD i (.Pass ⟨0, 0, 0, 0⟩)
theorem sc_is_integer : FnScope ["thing"] ["thing"] (defScope (top 5)) := ⟨rfl, rfl, rfl, by decide +kernel, rfl, by decide +kernel, by decide +kernel⟩
theorem bp_is_integer : BindsP "is_integer" (top 5) ["thing"] := fun _ _ _ _ _ _ us hl => match us, hl with | [_], _ => rfl
theorem sc_is_number : FnScope ["thing"] ["thing"] (defScope (top 6)) := ⟨rfl, rfl, rfl, by decide +kernel, rfl, by decide +kernel, by decide +kernel⟩
theorem bp_is_number : BindsP "is_number" (top 6) ["thing"] := fun _ _ _ _ _ _ us hl => match us, hl with | [_], _ => rfl
theorem sc_pair_sign : FnScope ["a", "b", "x", "is_x_greater"] ["a", "b"] (defScope (top 7)) := ⟨rfl, rfl, rfl, by decide +kernel, rfl, by decide +kernel, by decide +kernel⟩
theorem bp_pair_sign : BindsP "pair_sign" (top 7) ["a", "b"] := fun _ _ _ _ _ _ us hl => match us, hl with | [_, _], _ => rfl
theorem sc_sign_of : FnScope ["one"] ["one"] (defScope (top 8)) := ⟨rfl, rfl, rfl, by decide +kernel, rfl, by decide +kernel, by decide +kernel⟩
theorem bp_sign_of : BindsP "sign_of" (top 8) ["one"] := fun _ _ _ _ _ _ us hl => match us, hl with | [_], _ => rfl
theorem sc_compared : FnScope ["one", "other"] ["one", "other"] (defScope (top 9)) := ⟨rfl, rfl, rfl, by decide +kernel, rfl, by decide +kernel, by decide +kernel⟩
theorem bp_compared : BindsP "compared" (top 9) ["one", "other"] := fun _ _ _ _ _ _ us hl => match us, hl with | [_, _], _ => rfl
theorem sc_negative : FnScope ["one"] ["one"] (defScope (top 10)) := ⟨rfl, rfl, rfl, by decide +kernel, rfl, by decide +kernel, by decide +kernel⟩
theorem bp_negative : BindsP "negative" (top 10) ["one"] := fun _ _ _ _ _ _ us hl => match us, hl with | [_], _ => rfl
theorem sc_is_whole_number : FnScope ["one"] ["one"] (defScope (top 11)) := ⟨rfl, rfl, rfl, by decide +kernel, rfl, by decide +kernel, by decide +kernel⟩
theorem bp_is_whole_number : BindsP "is_whole_number" (top 11) ["one"] := fun _ _ _ _ _ _ us hl => match us, hl with | [_], _ => rfl
theorem sc_floor_integer : FnScope ["one", "x", "b", "m", "root"] ["one"] (defScope (top 12)) := ⟨rfl, rfl, rfl, by decide +kernel, rfl, by decide +kernel, by decide +kernel⟩
theorem bp_floor_integer : BindsP "floor_integer" (top 12) ["one"] := fun _ _ _ _ _ _ us hl => match us, hl with | [_], _ => rfl
theorem sc_ceiling_integer : FnScope ["one"] ["one"] (defScope (top 13)) := ⟨rfl, rfl, rfl, by decide +kernel, rfl, by decide +kernel, by decide +kernel⟩
theorem bp_ceiling_integer : BindsP "ceiling_integer" (top 13) ["one"] := fun _ _ _ _ _ _ us hl => match us, hl with | [_], _ => rfl
theorem sc_need_numbers : FnScope ["things", "thing"] ["things"] (defScope (top 15)) := ⟨rfl, rfl, rfl, by decide +kernel, rfl, by decide +kernel, by decide +kernel⟩
theorem bp_need_numbers : BindsP "need_numbers" (top 15) ["things"] := fun _ _ _ _ _ _ us hl => match us, hl with | [_], _ => rfl
theorem sc_sign : FnScope ["number"] ["number"] (defScope (top 16)) := ⟨rfl, rfl, rfl, by decide +kernel, rfl, by decide +kernel, by decide +kernel⟩
theorem bp_sign : BindsP "sign" (top 16) ["number"] := fun _ _ _ _ _ _ us hl => match us, hl with | [_], _ => rfl
theorem sc_is_below : FnScope ["one", "other"] ["one", "other"] (defScope (top 17)) := ⟨rfl, rfl, rfl, by decide +kernel, rfl, by decide +kernel, by decide +kernel⟩
theorem bp_is_below : BindsP "is_below" (top 17) ["one", "other"] := fun _ _ _ _ _ _ us hl => match us, hl with | [_, _], _ => rfl
theorem sc_are_equal : FnScope ["one", "other"] ["one", "other"] (defScope (top 18)) := ⟨rfl, rfl, rfl, by decide +kernel, rfl, by decide +kernel, by decide +kernel⟩
theorem bp_are_equal : BindsP "are_equal" (top 18) ["one", "other"] := fun _ _ _ _ _ _ us hl => match us, hl with | [_, _], _ => rfl
theorem sc_integer_below : FnScope ["number"] ["number"] (defScope (top 19)) := ⟨rfl, rfl, rfl, by decide +kernel, rfl, by decide +kernel, by decide +kernel⟩
theorem bp_integer_below : BindsP "integer_below" (top 19) ["number"] := fun _ _ _ _ _ _ us hl => match us, hl with | [_], _ => rfl
theorem sc_integer_above : FnScope ["number"] ["number"] (defScope (top 20)) := ⟨rfl, rfl, rfl, by decide +kernel, rfl, by decide +kernel, by decide +kernel⟩
theorem bp_integer_above : BindsP "integer_above" (top 20) ["number"] := fun _ _ _ _ _ _ us hl => match us, hl with | [_], _ => rfl
theorem sc_is_whole : FnScope ["number"] ["number"] (defScope (top 21)) := ⟨rfl, rfl, rfl, by decide +kernel, rfl, by decide +kernel, by decide +kernel⟩
theorem bp_is_whole : BindsP "is_whole" (top 21) ["number"] := fun _ _ _ _ _ _ us hl => match us, hl with | [_], _ => rfl
theorem sc__law_deck : FnScope ["_law_script", "_law_mixed", "_law_cell"] ["_law_script"] (defScope (top 23)) := ⟨rfl, rfl, rfl, by decide +kernel, rfl, by decide +kernel, by decide +kernel⟩
theorem bp__law_deck : BindsP "_law_deck" (top 23) ["_law_script"] := fun _ _ _ _ _ _ us hl => match us, hl with | [_], _ => rfl
theorem sc__law_draw : FnScope ["_law_deck_here", "_law_many", "_law_figure", "_law_cell"] ["_law_deck_here", "_law_many"] (defScope (top 24)) := ⟨rfl, rfl, rfl, by decide +kernel, rfl, by decide +kernel, by decide +kernel⟩
theorem bp__law_draw : BindsP "_law_draw" (top 24) ["_law_deck_here", "_law_many"] := fun _ _ _ _ _ _ us hl => match us, hl with | [_, _], _ => rfl
theorem sc__law_pick : FnScope ["_law_deck_here", "_law_some"] ["_law_deck_here", "_law_some"] (defScope (top 25)) := ⟨rfl, rfl, rfl, by decide +kernel, rfl, by decide +kernel, by decide +kernel⟩
theorem bp__law_pick : BindsP "_law_pick" (top 25) ["_law_deck_here", "_law_some"] := fun _ _ _ _ _ _ us hl => match us, hl with | [_, _], _ => rfl
theorem sc__law_integer : FnScope ["_law_deck_here", "_law_pieces", "_law_way", "_law_facing", "_law_found", "_law_piece"] ["_law_deck_here", "_law_pieces"] (defScope (top 26)) := ⟨rfl, rfl, rfl, by decide +kernel, rfl, by decide +kernel, by decide +kernel⟩
theorem bp__law_integer : BindsP "_law_integer" (top 26) ["_law_deck_here", "_law_pieces"] := fun _ _ _ _ _ _ us hl => match us, hl with | [_, _], _ => rfl
theorem sc__law_sign : FnScope ["_law_a", "_law_b", "_law_near"] ["_law_a", "_law_b"] (defScope (top 27)) := ⟨rfl, rfl, rfl, by decide +kernel, rfl, by decide +kernel, by decide +kernel⟩
theorem bp__law_sign : BindsP "_law_sign" (top 27) ["_law_a", "_law_b"] := fun _ _ _ _ _ _ us hl => match us, hl with | [_, _], _ => rfl
theorem sc__law_same : FnScope ["_law_told", "_law_due"] ["_law_told", "_law_due"] (defScope (top 28)) := ⟨rfl, rfl, rfl, by decide +kernel, rfl, by decide +kernel, by decide +kernel⟩
theorem bp__law_same : BindsP "_law_same" (top 28) ["_law_told", "_law_due"] := fun _ _ _ _ _ _ us hl => match us, hl with | [_, _], _ => rfl
theorem sc__law_thin : FnScope ["_law_deck_here", "_law_pieces", "_law_many", "_law_a", "_law_b", "_law_turn"] ["_law_deck_here", "_law_pieces"] (defScope (top 29)) := ⟨rfl, rfl, rfl, by decide +kernel, rfl, by decide +kernel, by decide +kernel⟩
theorem bp__law_thin : BindsP "_law_thin" (top 29) ["_law_deck_here", "_law_pieces"] := fun _ _ _ _ _ _ us hl => match us, hl with | [_, _], _ => rfl
theorem sc__law_golden : FnScope ["_law_deck_here", "_law_pieces", "_law_d", "_law_way", "_law_a", "_law_b"] ["_law_deck_here", "_law_pieces"] (defScope (top 30)) := ⟨rfl, rfl, rfl, by decide +kernel, rfl, by decide +kernel, by decide +kernel⟩
theorem bp__law_golden : BindsP "_law_golden" (top 30) ["_law_deck_here", "_law_pieces"] := fun _ _ _ _ _ _ us hl => match us, hl with | [_, _], _ => rfl
theorem sc__law_other : FnScope ["_law_deck_here", "_law_p", "_law_pieces", "_law_way", "_law_factor", "_law_a", "_law_b"] ["_law_deck_here", "_law_p", "_law_pieces"] (defScope (top 31)) := ⟨rfl, rfl, rfl, by decide +kernel, rfl, by decide +kernel, by decide +kernel⟩
theorem bp__law_other : BindsP "_law_other" (top 31) ["_law_deck_here", "_law_p", "_law_pieces"] := fun _ _ _ _ _ _ us hl => match us, hl with | [_, _, _], _ => rfl
theorem sc__law_apart : FnScope ["_law_p", "_law_q"] ["_law_p", "_law_q"] (defScope (top 32)) := ⟨rfl, rfl, rfl, by decide +kernel, rfl, by decide +kernel, by decide +kernel⟩
theorem bp__law_apart : BindsP "_law_apart" (top 32) ["_law_p", "_law_q"] := fun _ _ _ _ _ _ us hl => match us, hl with | [_, _], _ => rfl
theorem sc__law_is_between : FnScope ["_law_p", "_law_low", "_law_high", "_law_it"] ["_law_p", "_law_low", "_law_high"] (defScope (top 33)) := ⟨rfl, rfl, rfl, by decide +kernel, rfl, by decide +kernel, by decide +kernel⟩
theorem bp__law_is_between : BindsP "_law_is_between" (top 33) ["_law_p", "_law_low", "_law_high"] := fun _ _ _ _ _ _ us hl => match us, hl with | [_, _, _], _ => rfl
theorem sc__law_are_right : FnScope ["_law_p", "_law_q", "_law_near", "_law_far", "_law_apart_here", "_law_it", "_law_is_one"] ["_law_p", "_law_q"] (defScope (top 34)) := ⟨rfl, rfl, rfl, by decide +kernel, rfl, by decide +kernel, by decide +kernel⟩
theorem bp__law_are_right : BindsP "_law_are_right" (top 34) ["_law_p", "_law_q"] := fun _ _ _ _ _ _ us hl => match us, hl with | [_, _], _ => rfl
theorem sc_law : FnScope ["_law_script", "_law_deck_here", "_law_turn", "_law_p"] ["_law_script"] (defScope (top 35)) := ⟨rfl, rfl, rfl, by decide +kernel, rfl, by decide +kernel, by decide +kernel⟩
theorem bp_law : BindsP "law" (top 35) ["_law_script"] := fun _ _ _ _ _ _ us hl => match us, hl with | [_], _ => rfl
theorem kb_sign_0 : BindsKw "sign" (top 16) ["number"] ["number"] 0 1 [0] := fun _ _ _ _ _ _ us ws h1 h2 => match us, ws, h1, h2 with | [], [_], _, _ => rfl
theorem kb_is_below_0 : BindsKw "is_below" (top 17) ["one", "other"] ["other", "one"] 0 2 [1, 0] := fun _ _ _ _ _ _ us ws h1 h2 => match us, ws, h1, h2 with | [], [_, _], _, _ => rfl
theorem kb_are_equal_0 : BindsKw "are_equal" (top 18) ["one", "other"] ["one", "other"] 0 2 [0, 1] := fun _ _ _ _ _ _ us ws h1 h2 => match us, ws, h1, h2 with | [], [_, _], _, _ => rfl
theorem kb_is_whole_0 : BindsKw "is_whole" (top 21) ["number"] ["number"] 0 1 [0] := fun _ _ _ _ _ _ us ws h1 h2 => match us, ws, h1, h2 with | [], [_], _, _ => rfl
theorem kb_integer_below_0 : BindsKw "integer_below" (top 19) ["number"] ["number"] 0 1 [0] := fun _ _ _ _ _ _ us ws h1 h2 => match us, ws, h1, h2 with | [], [_], _, _ => rfl
theorem kb_integer_above_0 : BindsKw "integer_above" (top 20) ["number"] ["number"] 0 1 [0] := fun _ _ _ _ _ _ us ws h1 h2 => match us, ws, h1, h2 with | [], [_], _, _ => rfl
structure Bt (mg : Str → Option Value) : Prop where
  b_abs : mg "abs" = none
  b_bool : mg "bool" = none
  b_int : mg "int" = none
  b_isinstance : mg "isinstance" = none
  b_len : mg "len" = none
  b_list : mg "list" = none
  b_max : mg "max" = none
  b_range : mg "range" = none
  b_repr : mg "repr" = none
  b_tuple : mg "tuple" = none
  f_isqrt : mg "isqrt" = some (.builtin "math.isqrt")
abbrev sp__law_draw := spDraw
/-! sizes -/
def Sz (n : Nat) (i : Int) : Prop := i.natAbs < 2 ^ n
instance (n : Nat) (i : Int) : Decidable (Sz n i) := inferInstanceAs (Decidable (_ < _))
theorem Sz.mono {n m : Nat} {i : Int} (h : Sz n i) (e : n ≤ m) : Sz m i := Nat.lt_of_lt_of_le h (Nat.pow_le_pow_right (by decide) e)
theorem Sz.mul {n m : Nat} {i j : Int} (h : Sz n i) (h' : Sz m j) : Sz (n + m) (i * j) := by
  show (i * j).natAbs < 2 ^ (n + m)
  rw [Int.natAbs_mul, Nat.pow_add]
  exact Nat.mul_lt_mul'' h h'
theorem Sz.add {n : Nat} {i j : Int} (h : Sz n i) (h' : Sz n j) : Sz (n + 1) (i + j) := by
  have h1 : i.natAbs < 2 ^ n := h
  have h2 : j.natAbs < 2 ^ n := h'
  show (i + j).natAbs < 2 ^ (n + 1)
  rw [Nat.pow_succ]
  omega
theorem Sz.neg {n : Nat} {i : Int} (h : Sz n i) : Sz n (-i) := by
  show (-i).natAbs < 2 ^ n
  rw [Int.natAbs_neg]
  exact h
theorem Sz.sub {n : Nat} {i j : Int} (h : Sz n i) (h' : Sz n j) : Sz (n + 1) (i - j) := by
  rw [Int.sub_eq_add_neg]
  exact h.add h'.neg
theorem Sz.log {n : Nat} {i : Int} (h : Sz n i) : i.natAbs.log2 ≤ n := by
  by_cases e : i.natAbs = 0
  · rw [e]
    simp
  · exact Nat.le_of_lt ((Nat.log2_lt e).mpr h)
theorem Sz.ok {n m : Nat} {i j : Int} (h : Sz n i) (h' : Sz m j) (e : n + m < 1000000) : ND.MulOk i j := by
  have := h.log
  have := h'.log
  show i.natAbs.log2 + j.natAbs.log2 < 1000000
  omega
/-- the sign of a + b g -/
def psg (a b : Int) : Int :=
  if 0 ≤ 2 * a + b ∧ 0 ≤ b then (if 0 < 2 * a + b ∨ 0 < b then 1 else 0)
  else if 2 * a + b ≤ 0 ∧ b ≤ 0 then -1
  else if 0 < 2 * a + b then (if 5 * b * b < (2 * a + b) * (2 * a + b) then 1 else -1)
  else if 5 * b * b < (2 * a + b) * (2 * a + b) then -1 else 1
theorem psg_neg (a b : Int) : psg (-a) (-b) = -psg a b := by
  have e : 2 * -a + -b = -(2 * a + b) := by omega
  have e2 : 5 * -b * -b = 5 * b * b := by rw [Int.mul_neg, Int.mul_neg, Int.neg_mul, Int.neg_neg]
  unfold psg
  rw [e, e2, Int.neg_mul_neg]
  generalize 2 * a + b = x
  by_cases h : 5 * b * b < x * x
  · rw [if_pos h, if_pos h]
    repeat' split
    all_goals first | rfl | omega
  · rw [if_neg h, if_neg h]
    repeat' split
    all_goals first | rfl | omega
def flr (a b m : Int) : Int := if 0 ≤ b then (2 * a + b + ((Float64.isqrt (5 * b * b).toNat : Nat) : Int)) / (2 * m) else (2 * a + b - ((Float64.isqrt (5 * b * b).toNat : Nat) : Int) - 1) / (2 * m)
theorem sq_lt {x y : Int} (h0 : 0 ≤ x) (h : x < y) : x * x < y * y := Int.mul_lt_mul' (Int.le_of_lt h) h h0 (by omega)
theorem sq_le {x y : Int} (h0 : 0 ≤ x) (h : x ≤ y) : x * x ≤ y * y := Int.mul_le_mul h h h0 (by omega)
theorem root5 (b : Int) : ∃ r : Int, ((Float64.isqrt (5 * b * b).toNat : Nat) : Int) = r ∧ 0 ≤ r ∧ r * r ≤ 5 * b * b ∧ 5 * b * b < (r + 1) * (r + 1) := by
  have hn : 0 ≤ 5 * b * b := by
    rw [Int.mul_assoc]
    exact Int.mul_nonneg (by decide) (by
      rcases Int.le_total 0 b with h | h
      · exact Int.mul_nonneg h h
      · exact Int.mul_nonneg_of_nonpos_of_nonpos h h)
  obtain ⟨n, hn2⟩ := Int.eq_ofNat_of_zero_le hn
  obtain ⟨h1, h2⟩ := Float64.isqrt_spec n
  rw [hn2]
  refine ⟨_, rfl, Int.natCast_nonneg _, ?_, ?_⟩
  · rw [Int.toNat_natCast]
    exact_mod_cast h1
  · rw [Int.toNat_natCast]
    exact_mod_cast h2
theorem flr_ok {a b m : Int} (hm : 1 ≤ m) : 0 ≤ psg (a - flr a b m * m) b ∧ psg (a - (flr a b m + 1) * m) b < 0 := by
  obtain ⟨r, er, r0, r1, r2⟩ := root5 b
  unfold flr
  rw [er]
  have key : ∀ k : Int, 2 * (a - k * m) + b = (2 * a + b) - k * (2 * m) := fun k => by
    have : k * (2 * m) = 2 * (k * m) := by rw [Int.mul_left_comm]
    omega
  unfold psg
  rw [key, key]
  have hM : 0 < 2 * m := by omega
  by_cases hb : 0 ≤ b
  · rw [if_pos hb]
    generalize hx : 2 * a + b = x
    have q1 := Int.ediv_mul_le (x + r) (Int.ne_of_gt hM)
    have q2 := Int.lt_ediv_add_one_mul_self (x + r) hM
    generalize (x + r) / (2 * m) * (2 * m) = u at q1 ⊢
    generalize ((x + r) / (2 * m) + 1) * (2 * m) = v at q2 ⊢
    constructor
    · by_cases c : 0 ≤ x - u
      · rw [if_pos ⟨c, hb⟩]
        split <;> decide
      · have c2 : ¬ 5 * b * b < (x - u) * (x - u) := by
          have := sq_le (x := u - x) (y := r) (by omega) (by omega)
          have e : (u - x) * (u - x) = (x - u) * (x - u) := by rw [← Int.neg_mul_neg]; congr 1 <;> omega
          omega
        rw [if_neg (fun z => c z.1)]
        by_cases c3 : b ≤ 0
        · have hb0 : b = 0 := by omega
          subst hb0
          have r00 : r = 0 := by
            rcases Int.lt_or_le 0 r with h | h
            · have := Int.mul_pos h h
              simp at r1
              omega
            · omega
          omega
        · rw [if_neg (fun z => c3 z.2), if_neg (by omega), if_neg c2]
          decide
    · have c : ¬ 0 ≤ x - v := by omega
      rw [if_neg (fun z => c z.1)]
      by_cases c3 : b ≤ 0
      · rw [if_pos ⟨by omega, c3⟩]
        decide
      · have c2 : 5 * b * b < (x - v) * (x - v) := by
          have := sq_le (x := r + 1) (y := v - x) (by omega) (by omega)
          have e : (v - x) * (v - x) = (x - v) * (x - v) := by rw [← Int.neg_mul_neg]; congr 1 <;> omega
          omega
        rw [if_neg (fun z => c3 z.2), if_neg (by omega), if_pos c2]
        decide
  · rw [if_neg hb]
    generalize hx : 2 * a + b = x
    have q1 := Int.ediv_mul_le (x - r - 1) (Int.ne_of_gt hM)
    have q2 := Int.lt_ediv_add_one_mul_self (x - r - 1) hM
    generalize (x - r - 1) / (2 * m) * (2 * m) = u at q1 ⊢
    generalize ((x - r - 1) / (2 * m) + 1) * (2 * m) = v at q2 ⊢
    constructor
    · rw [if_neg (fun z => hb z.2), if_neg (by omega), if_pos (by omega)]
      have := sq_le (x := r + 1) (y := x - u) (by omega) (by omega)
      rw [if_pos (by omega)]
      decide
    · rw [if_neg (fun z => hb z.2)]
      by_cases c : x - v ≤ 0
      · rw [if_pos ⟨c, by omega⟩]
        decide
      · have := sq_le (x := x - v) (y := r) (by omega) (by omega)
        rw [if_neg (fun z => c z.1), if_pos (by omega), if_neg (by omega)]
        decide
theorem five_sq : ∀ (n : Nat) (x b : Nat), b ≤ n → x * x = 5 * b * b → b = 0
  | 0, x, b, h, _ => by omega
  | n + 1, x, b, h, e => by
    have h5 : x % 5 = 0 := by
      have h1 : (x * x) % 5 = 0 := by rw [e, Nat.mul_assoc, Nat.mul_mod_right]
      rw [Nat.mul_mod] at h1
      have h2 : x % 5 < 5 := Nat.mod_lt _ (by decide)
      generalize x % 5 = y at h1 h2 ⊢
      have : y = 0 ∨ y = 1 ∨ y = 2 ∨ y = 3 ∨ y = 4 := by omega
      rcases this with h | h | h | h | h <;> subst h <;> simp_all
    obtain ⟨y, rfl⟩ : ∃ y, x = 5 * y := ⟨x / 5, by omega⟩
    have e2 : b * b = 5 * y * y := by
      have : 5 * y * (5 * y) = 5 * (5 * y * y) := by simp [Nat.mul_assoc, Nat.mul_comm, Nat.mul_left_comm]
      have h3 : 5 * b * b = 5 * (b * b) := Nat.mul_assoc _ _ _
      omega
    by_cases hb : b = 0
    · exact hb
    · have hy : y < b := by
        rcases Nat.lt_or_ge y b with h | h
        · exact h
        · have h1 := Nat.mul_le_mul h h
          have h2 : 5 * y * y = 5 * (y * y) := Nat.mul_assoc _ _ _
          have h3 : 0 < b * b := Nat.mul_pos (by omega) (by omega)
          omega
      have z := five_sq n b y (by omega) e2
      subst z
      have : b * b = 0 := by omega
      exact absurd ((Nat.mul_eq_zero.mp this).elim id id) hb
theorem no_tie {x b : Int} (hb : b ≠ 0) : x * x ≠ 5 * b * b := fun e => by
  have e2 : x.natAbs * x.natAbs = 5 * b.natAbs * b.natAbs := by
    have := congrArg Int.natAbs e
    rw [Int.natAbs_mul, Int.natAbs_mul, Int.natAbs_mul] at this
    exact this
  have := five_sq b.natAbs x.natAbs b.natAbs (Nat.le_refl _) e2
  omega

abbrev tri (a b m : Int) : D := .tup [.int a, .int b, .int m]
abbrev dkD (d : Addr) : D := .opq (.ref d)
def isI : D → Bool | .int _ => true | _ => false
def cmpd (a b m c d n : Int) : Int := psg (a * n - c * m) (b * n - d * m)
def Big (N : Nat) (a b m : Int) : Prop := Sz N a ∧ Sz N b ∧ Sz N m ∧ 1 ≤ m
def sp_is_integer : DSp := fun _ ds Q _ => ∃ x, ds = [x] ∧ (tyD x).isSome = true ∧ Q (.bl (isI x))
def sp_is_number : DSp := fun _ ds Q _ => ∃ a b m, ds = [tri a b m] ∧ 1 ≤ m ∧ Q (.bl true)
def sp_pair_sign : DSp := fun _ ds Q _ => ∃ a b, ds = [.int a, .int b] ∧ Sz 200000 a ∧ Sz 200000 b ∧ Q (.int (psg a b))
def sp__law_sign : DSp := sp_pair_sign
def sp_sign_of : DSp := fun _ ds Q _ => ∃ a b m, ds = [tri a b m] ∧ Sz 200000 a ∧ Sz 200000 b ∧ Q (.int (psg a b))
def sp_compared : DSp := fun _ ds Q _ => ∃ a b m c d n, ds = [tri a b m, tri c d n] ∧ Big 50000 a b m ∧ Big 50000 c d n ∧ Q (.int (cmpd a b m c d n))
def sp__law_apart : DSp := sp_compared
def sp_negative : DSp := fun _ ds Q _ => ∃ a b m, ds = [tri a b m] ∧ Q (tri (-a) (-b) m)
def wholeB (a b m : Int) : Bool := if a % m = 0 then decide (b % m = 0) else false
def sp_is_whole_number : DSp := fun _ ds Q _ => ∃ a b m, ds = [tri a b m] ∧ 1 ≤ m ∧ Q (.bl (wholeB a b m))
def sp_floor_integer : DSp := fun _ ds Q _ => ∃ a b m, ds = [tri a b m] ∧ Big 6000 a b m ∧ Q (.int (flr a b m))
def sp_ceiling_integer : DSp := fun _ ds Q _ => ∃ a b m, ds = [tri a b m] ∧ Big 6000 a b m ∧ Q (.int (-flr (-a) (-b) m))
def sp_need_numbers : DSp := fun _ ds Q _ => ∃ xs, ds = [.tup xs] ∧ (∀ x ∈ xs, ∃ a b m, x = tri a b m ∧ 1 ≤ m) ∧ Q .non
def sp_sign : DSp := fun _ ds Q _ => ∃ a b m, ds = [tri a b m] ∧ Big 6000 a b m ∧ Q (.int (psg a b))
def sp_is_below : DSp := fun _ ds Q _ => ∃ a b m c d n, ds = [tri a b m, tri c d n] ∧ Big 6000 a b m ∧ Big 6000 c d n ∧ Q (.bl (decide (cmpd a b m c d n < 0)))
def sp_are_equal : DSp := fun _ ds Q _ => ∃ a b m c d n, ds = [tri a b m, tri c d n] ∧ Big 6000 a b m ∧ Big 6000 c d n ∧ Q (.bl (decide (cmpd a b m c d n = 0)))
def sp_integer_below : DSp := sp_floor_integer
def sp_integer_above : DSp := sp_ceiling_integer
def sp_is_whole : DSp := sp_is_whole_number
def sp__law_same : DSp := fun _ ds Q _ => ∃ x, ds = [x, x] ∧ pl 64 x = true ∧ (toPy x).showable = true ∧ (toPy x).shown.length ≤ sizeLine ∧ Q (.bl true)
def sp__law_pick : DSp := fun W ds Q _ => ∃ d l xs, W = some (d, l) ∧ ds = [dkD d, .tup xs] ∧ 0 < xs.length ∧ xs.length < 2 ^ 62 ∧ ∀ x ∈ xs, Q x
def sp__law_integer : DSp := fun W ds Q _ => ∃ d l, ∃ n : Nat, W = some (d, l) ∧ ds = [dkD d, .int n] ∧ 1 ≤ n ∧ n ≤ 80 ∧ ∀ i, Sz (20 * n + 20) i → Q (.int i)
def sp__law_thin : DSp := fun W ds Q _ => ∃ d l, ∃ n : Nat, W = some (d, l) ∧ ds = [dkD d, .int n] ∧ 1 ≤ n ∧ n ≤ 80 ∧ ∀ a b, Sz (29 * n + 2) a → Sz (29 * n + 2) b → Q (.tup [.int a, .int b])
def sp__law_golden : DSp := fun W ds Q _ => ∃ d l, ∃ n : Nat, W = some (d, l) ∧ ds = [dkD d, .int n] ∧ 1 ≤ n ∧ n ≤ 80 ∧ ∀ a b m, Big (60 * n + 60) a b m → Q (tri a b m)
def sp__law_other : DSp := fun W ds Q _ => ∃ d l, ∃ n : Nat, ∃ a b m, W = some (d, l) ∧ ds = [dkD d, tri a b m, .int n] ∧ 1 ≤ n ∧ n ≤ 80 ∧ Big (60 * n + 60) a b m ∧ ∀ a b m, Big (60 * n + 70) a b m → Q (tri a b m)
def sp__law_is_between : DSp := fun _ ds Q _ => ∃ a b m lo hi, ds = [tri a b m, .int lo, .int hi] ∧ Big 6000 a b m ∧ lo = flr a b m ∧ hi = -flr (-a) (-b) m ∧ Q (.bl true)
def sp__law_are_right : DSp := fun _ ds Q _ => ∃ a b m c d n, ds = [tri a b m, tri c d n] ∧ Big 6000 a b m ∧ Big 6000 c d n ∧ Q (.bl true)
def g_is_integer (W : WD) (R : Er → Prop) : GS :=
  (gRet (gAnd (gBlt isiD (gCons (gVar 0) (gCons (gC (.opq (.ty "int"))) gNil))) (gNot (gBlt isiD (gCons (gVar 0) (gCons (gC (.opq (.ty "bool"))) gNil))))))
def g_pair_sign (W : WD) (R : Er → Prop) : GS :=
  (gSeq (gSet 2 (gBin addD (gBin mulD (gC (.int 2)) (gVar 0)) (gVar 1)))
    (gSeq (gIfS (gAndT (gB (gBin geD (gVar 2) (gC (.int 0)))) (gB (gBin geD (gVar 1) (gC (.int 0))))) (gRet (gIf (gOrT (gB (gBin gtD (gVar 2) (gC (.int 0)))) (gB (gBin gtD (gVar 1) (gC (.int 0))))) (gC (.int 1)) (gC (.int 0)))) gSkip)
    (gSeq (gIfS (gAndT (gB (gBin leD (gVar 2) (gC (.int 0)))) (gB (gBin leD (gVar 1) (gC (.int 0))))) (gRet (gUn negD (gC (.int 1)))) gSkip)
    (gSeq (gSet 3 (gBin gtD (gBin mulD (gVar 2) (gVar 2)) (gBin mulD (gBin mulD (gC (.int 5)) (gVar 1)) (gVar 1))))
    (gSeq (gIfS (gB (gBin gtD (gVar 2) (gC (.int 0)))) (gRet (gIf (gTru (gVar 3)) (gC (.int 1)) (gUn negD (gC (.int 1))))) gSkip)
    (gRet (gIf (gTru (gVar 3)) (gUn negD (gC (.int 1))) (gC (.int 1)))))))))
def g_negative (W : WD) (R : Er → Prop) : GS :=
  (gRet (gTup (gCons (gUn negD (gBin ixD (gVar 0) (gC (.int 0)))) (gCons (gUn negD (gBin ixD (gVar 0) (gC (.int 1)))) (gCons (gBin ixD (gVar 0) (gC (.int 2))) gNil)))))
def g_is_whole_number (W : WD) (R : Er → Prop) : GS :=
  (gRet (gAnd (gBin eqD (gBin modD (gBin ixD (gVar 0) (gC (.int 0))) (gBin ixD (gVar 0) (gC (.int 2)))) (gC (.int 0))) (gBin eqD (gBin modD (gBin ixD (gVar 0) (gC (.int 1))) (gBin ixD (gVar 0) (gC (.int 2)))) (gC (.int 0)))))
def g_floor_integer (W : WD) (R : Er → Prop) : GS :=
  (gSeq (gPar [1, 2, 3] (gCons (gBin addD (gBin mulD (gC (.int 2)) (gBin ixD (gVar 0) (gC (.int 0)))) (gBin ixD (gVar 0) (gC (.int 1)))) (gCons (gBin ixD (gVar 0) (gC (.int 1))) (gCons (gBin mulD (gC (.int 2)) (gBin ixD (gVar 0) (gC (.int 2)))) gNil))))
    (gSeq (gSet 4 (gBlt isqrtD (gCons (gBin mulD (gBin mulD (gC (.int 5)) (gVar 2)) (gVar 2)) gNil)))
    (gSeq (gIfS (gB (gBin geD (gVar 2) (gC (.int 0)))) (gRet (gBin fdivD (gBin addD (gVar 1) (gVar 4)) (gVar 3))) gSkip)
    (gRet (gBin fdivD (gBin subD (gBin subD (gVar 1) (gVar 4)) (gC (.int 1))) (gVar 3))))))
def g__law_sign (W : WD) (R : Er → Prop) : GS :=
  (gSeq (gSet 2 (gBin addD (gBin mulD (gC (.int 2)) (gVar 0)) (gVar 1)))
    (gSeq (gIfS (gAndT (gB (gBin geD (gVar 2) (gC (.int 0)))) (gB (gBin geD (gVar 1) (gC (.int 0))))) (gRet (gBlt intD (gCons (gOr (gBin gtD (gVar 2) (gC (.int 0))) (gBin gtD (gVar 1) (gC (.int 0)))) gNil))) gSkip)
    (gSeq (gIfS (gAndT (gB (gBin leD (gVar 2) (gC (.int 0)))) (gB (gBin leD (gVar 1) (gC (.int 0))))) (gRet (gUn negD (gC (.int 1)))) gSkip)
    (gSeq (gIfS (gB (gBin gtD (gVar 2) (gC (.int 0)))) (gRet (gIf (gB (gBin gtD (gBin mulD (gVar 2) (gVar 2)) (gBin mulD (gBin mulD (gC (.int 5)) (gVar 1)) (gVar 1)))) (gC (.int 1)) (gUn negD (gC (.int 1))))) gSkip)
    (gRet (gIf (gB (gBin gtD (gBin mulD (gBin mulD (gC (.int 5)) (gVar 1)) (gVar 1)) (gBin mulD (gVar 2) (gVar 2)))) (gC (.int 1)) (gUn negD (gC (.int 1)))))))))
def g__law_same (W : WD) (R : Er → Prop) : GS :=
  (gRet (gBin eqD (gBlt reprD (gCons (gVar 0) gNil)) (gBlt reprD (gCons (gVar 1) gNil))))
def g_is_number (W : WD) (R : Er → Prop) : GS :=
  (gSeq (gIfS (gOrT (gNotT (gTru (gBlt isiD (gCons (gVar 0) (gCons (gC (.opq (.ty "tuple"))) gNil))))) (gB (gBin neD (gBlt lenD (gCons (gVar 0) gNil)) (gC (.int 3))))) (gRet (gC (.bl false))) gSkip)
    (gRet (gAnd (gCall sp_is_integer W R (gCons (gBin ixD (gVar 0) (gC (.int 0))) gNil)) (gAnd (gCall sp_is_integer W R (gCons (gBin ixD (gVar 0) (gC (.int 1))) gNil)) (gAnd (gCall sp_is_integer W R (gCons (gBin ixD (gVar 0) (gC (.int 2))) gNil)) (gBin geD (gBin ixD (gVar 0) (gC (.int 2))) (gC (.int 1))))))))
def g_sign_of (W : WD) (R : Er → Prop) : GS :=
  (gRet (gCall sp_pair_sign W R (gCons (gBin ixD (gVar 0) (gC (.int 0))) (gCons (gBin ixD (gVar 0) (gC (.int 1))) gNil))))
def g_compared (W : WD) (R : Er → Prop) : GS :=
  (gRet (gCall sp_pair_sign W R (gCons (gBin subD (gBin mulD (gBin ixD (gVar 0) (gC (.int 0))) (gBin ixD (gVar 1) (gC (.int 2)))) (gBin mulD (gBin ixD (gVar 1) (gC (.int 0))) (gBin ixD (gVar 0) (gC (.int 2))))) (gCons (gBin subD (gBin mulD (gBin ixD (gVar 0) (gC (.int 1))) (gBin ixD (gVar 1) (gC (.int 2)))) (gBin mulD (gBin ixD (gVar 1) (gC (.int 1))) (gBin ixD (gVar 0) (gC (.int 2))))) gNil))))
def g_ceiling_integer (W : WD) (R : Er → Prop) : GS :=
  (gRet (gUn negD (gCall sp_floor_integer W R (gCons (gCall sp_negative W R (gCons (gVar 0) gNil)) gNil))))
def g__law_pick (W : WD) (R : Er → Prop) : GS :=
  (gRet (gBin ixD (gVar 1) (gCall sp__law_draw W R (gCons (gVar 0) (gCons (gBlt lenD (gCons (gVar 1) gNil)) gNil)))))
def g__law_integer (W : WD) (R : Er → Prop) : GS :=
  (gSeq (gPar [2, 3, 4] (gCons (gCall sp__law_draw W R (gCons (gVar 0) (gCons (gC (.int 9)) gNil))) (gCons (gBin subD (gC (.int 1)) (gBin mulD (gC (.int 2)) (gCall sp__law_draw W R (gCons (gVar 0) (gCons (gC (.int 2)) gNil))))) (gCons (gC (.int 0)) gNil))))
    (gSeq (gIfS (gB (gBin ltD (gVar 2) (gC (.int 6)))) (gRet (gBin mulD (gVar 3) (gCall sp__law_draw W R (gCons (gVar 0) (gCons (gBin ixD (gTup (gCons (gC (.int 1)) (gCons (gC (.int 3)) (gCons (gC (.int 5)) (gCons (gC (.int 13)) (gCons (gC (.int 100)) (gCons (gC (.int 1000)) gNil))))))) (gVar 2)) gNil))))) gSkip)
    (gSeq (gIfS (gB (gBin eqD (gVar 2) (gC (.int 6)))) (gRet (gBin mulD (gVar 3) (gBin subD (gBlt intD (gCons (gBin repS (gC (.str "9")) (gBin mulD (gC (.int 6)) (gVar 1))) gNil)) (gCall sp__law_draw W R (gCons (gVar 0) (gCons (gC (.int 50)) gNil)))))) gSkip)
    (gSeq (gFor (gRng1 (gCons (gBin addD (gC (.int 1)) (gCall sp__law_draw W R (gCons (gVar 0) (gCons (gVar 1) gNil)))) gNil)) (ggName 5) (gSet 4 (gBin addD (gBin mulD (gVar 4) (gBin powD (gC (.int 10)) (gC (.int 6)))) (gCall sp__law_draw W R (gCons (gVar 0) (gCons (gBin powD (gC (.int 10)) (gC (.int 6))) gNil))))))
    (gRet (gBin mulD (gVar 3) (gVar 4)))))))
def g__law_thin (W : WD) (R : Er → Prop) : GS :=
  (gSeq (gSet 2 (gCall sp__law_draw W R (gCons (gVar 0) (gCons (gBin mulD (gC (.int 29)) (gVar 1)) gNil))))
    (gSeq (gSetT [3, 4] (gTup (gCons (gC (.int 1)) (gCons (gC (.int 0)) gNil))))
    (gSeq (gFor (gRng1 (gCons (gVar 2) gNil)) (ggName 5) (gPar [3, 4] (gCons (gBin subD (gVar 3) (gVar 4)) (gCons (gUn negD (gVar 3)) gNil))))
    (gRet (gIf (gB (gBin eqD (gCall sp__law_draw W R (gCons (gVar 0) (gCons (gC (.int 2)) gNil))) (gC (.int 0)))) (gTup (gCons (gVar 3) (gCons (gVar 4) gNil))) (gTup (gCons (gUn negD (gVar 3)) (gCons (gUn negD (gVar 4)) gNil))))))))
def g__law_apart (W : WD) (R : Er → Prop) : GS :=
  (gRet (gCall sp__law_sign W R (gCons (gBin subD (gBin mulD (gBin ixD (gVar 0) (gC (.int 0))) (gBin ixD (gVar 1) (gC (.int 2)))) (gBin mulD (gBin ixD (gVar 1) (gC (.int 0))) (gBin ixD (gVar 0) (gC (.int 2))))) (gCons (gBin subD (gBin mulD (gBin ixD (gVar 0) (gC (.int 1))) (gBin ixD (gVar 1) (gC (.int 2)))) (gBin mulD (gBin ixD (gVar 1) (gC (.int 1))) (gBin ixD (gVar 0) (gC (.int 2))))) gNil))))
def g_need_numbers (W : WD) (R : Er → Prop) : GS :=
  (gFor (gIter (gVar 0)) (ggName 1) (gIfS (gNotT (gTru (gCall sp_is_number W R (gCons (gVar 1) gNil)))) gNever gSkip))
def g__law_golden (W : WD) (R : Er → Prop) : GS :=
  (gSeq (gSet 2 (gCall sp__law_pick W R (gCons (gVar 0) (gCons (gTup (gCons (gC (.int 1)) (gCons (gC (.int 2)) (gCons (gC (.int 3)) (gCons (gC (.int 5)) (gCons (gC (.int 4)) (gCons (gC (.int 6)) (gCons (gC (.int 10)) (gCons (gC (.int 11)) (gCons (gC (.int 12)) (gCons (gC (.int 0)) gNil))))))))))) gNil))))
    (gSeq (gIfS (gB (gBin eqD (gVar 2) (gC (.int 0)))) (gSet 2 (gBin addD (gC (.int 1)) (gBlt absD (gCons (gCall sp__law_integer W R (gCons (gVar 0) (gCons (gVar 1) gNil))) gNil)))) gSkip)
    (gSeq (gSet 3 (gCall sp__law_draw W R (gCons (gVar 0) (gCons (gC (.int 5)) gNil))))
    (gSeq (gIfS (gB (gBin eqD (gVar 3) (gC (.int 0)))) (gRet (gTup (gCons (gBin mulD (gVar 2) (gCall sp__law_integer W R (gCons (gVar 0) (gCons (gVar 1) gNil)))) (gCons (gC (.int 0)) (gCons (gVar 2) gNil))))) gSkip)
    (gSeq (gIfS (gB (gBin eqD (gVar 3) (gC (.int 1)))) (gSeq (gSetT [4, 5] (gCall sp__law_thin W R (gCons (gVar 0) (gCons (gVar 1) gNil))))
    (gRet (gTup (gCons (gVar 4) (gCons (gVar 5) (gCons (gVar 2) gNil)))))) gSkip)
    (gSeq (gIfS (gB (gBin eqD (gVar 3) (gC (.int 2)))) (gSeq (gSetT [4, 5] (gCall sp__law_thin W R (gCons (gVar 0) (gCons (gVar 1) gNil))))
    (gRet (gTup (gCons (gBin addD (gBin mulD (gVar 2) (gCall sp__law_integer W R (gCons (gVar 0) (gCons (gC (.int 2)) gNil)))) (gVar 4)) (gCons (gVar 5) (gCons (gVar 2) gNil)))))) gSkip)
    (gRet (gTup (gCons (gCall sp__law_integer W R (gCons (gVar 0) (gCons (gVar 1) gNil))) (gCons (gCall sp__law_integer W R (gCons (gVar 0) (gCons (gVar 1) gNil))) (gCons (gVar 2) gNil)))))))))))
def g__law_is_between (W : WD) (R : Er → Prop) : GS :=
  (gSeq (gIfS (gB (gBin neD (gFrz (gLc (gIter (gTup (gCons (gVar 1) (gCons (gVar 2) gNil)))) (ggName 3) (gOrT (gNotT (gTru (gBlt isiD (gCons (gVar 3) (gCons (gC (.opq (.ty "int"))) gNil))))) (gTru (gBlt isiD (gCons (gVar 3) (gCons (gC (.opq (.ty "bool"))) gNil))))) (gVar 3) [3])) (gFrz (gLst gNil)))) (gRet (gC (.bl false))) gSkip)
    (gSeq (gIfS (gOrT (gB (gBin ltD (gCall sp__law_apart W R (gCons (gVar 0) (gCons (gTup (gCons (gVar 1) (gCons (gC (.int 0)) (gCons (gC (.int 1)) gNil)))) gNil))) (gC (.int 0)))) (gB (gBin geD (gCall sp__law_apart W R (gCons (gVar 0) (gCons (gTup (gCons (gBin addD (gVar 1) (gC (.int 1))) (gCons (gC (.int 0)) (gCons (gC (.int 1)) gNil)))) gNil))) (gC (.int 0))))) (gRet (gC (.bl false))) gSkip)
    (gRet (gAnd (gBin leD (gCall sp__law_apart W R (gCons (gVar 0) (gCons (gTup (gCons (gVar 2) (gCons (gC (.int 0)) (gCons (gC (.int 1)) gNil)))) gNil))) (gC (.int 0))) (gBin gtD (gCall sp__law_apart W R (gCons (gVar 0) (gCons (gTup (gCons (gBin subD (gVar 2) (gC (.int 1))) (gCons (gC (.int 0)) (gCons (gC (.int 1)) gNil)))) gNil))) (gC (.int 0)))))))
def g_sign (W : WD) (R : Er → Prop) : GS :=
  (gSeq (gDrop (gCall sp_need_numbers W R (gCons (gTup (gCons (gVar 0) gNil)) gNil)))
    (gRet (gCall sp_sign_of W R (gCons (gVar 0) gNil))))
def g_is_below (W : WD) (R : Er → Prop) : GS :=
  (gSeq (gDrop (gCall sp_need_numbers W R (gCons (gTup (gCons (gVar 0) (gCons (gVar 1) gNil))) gNil)))
    (gRet (gBin ltD (gCall sp_compared W R (gCons (gVar 0) (gCons (gVar 1) gNil))) (gC (.int 0)))))
def g_are_equal (W : WD) (R : Er → Prop) : GS :=
  (gSeq (gDrop (gCall sp_need_numbers W R (gCons (gTup (gCons (gVar 0) (gCons (gVar 1) gNil))) gNil)))
    (gRet (gBin eqD (gCall sp_compared W R (gCons (gVar 0) (gCons (gVar 1) gNil))) (gC (.int 0)))))
def g_integer_below (W : WD) (R : Er → Prop) : GS :=
  (gSeq (gDrop (gCall sp_need_numbers W R (gCons (gTup (gCons (gVar 0) gNil)) gNil)))
    (gRet (gCall sp_floor_integer W R (gCons (gVar 0) gNil))))
def g_integer_above (W : WD) (R : Er → Prop) : GS :=
  (gSeq (gDrop (gCall sp_need_numbers W R (gCons (gTup (gCons (gVar 0) gNil)) gNil)))
    (gRet (gCall sp_ceiling_integer W R (gCons (gVar 0) gNil))))
def g_is_whole (W : WD) (R : Er → Prop) : GS :=
  (gSeq (gDrop (gCall sp_need_numbers W R (gCons (gTup (gCons (gVar 0) gNil)) gNil)))
    (gRet (gCall sp_is_whole_number W R (gCons (gVar 0) gNil))))
def g__law_other (W : WD) (R : Er → Prop) : GS :=
  (gSeq (gPar [3, 4] (gCons (gCall sp__law_draw W R (gCons (gVar 0) (gCons (gC (.int 6)) gNil))) (gCons (gBin addD (gC (.int 1)) (gCall sp__law_draw W R (gCons (gVar 0) (gCons (gC (.int 9)) gNil)))) gNil)))
    (gSeq (gIfS (gB (gBin eqD (gVar 3) (gC (.int 0)))) (gRet (gTup (gCons (gBin mulD (gVar 4) (gBin ixD (gVar 1) (gC (.int 0)))) (gCons (gBin mulD (gVar 4) (gBin ixD (gVar 1) (gC (.int 1)))) (gCons (gBin mulD (gVar 4) (gBin ixD (gVar 1) (gC (.int 2)))) gNil))))) gSkip)
    (gSeq (gIfS (gB (gBin ltD (gVar 3) (gC (.int 4)))) (gSeq (gSetT [5, 6] (gCall sp__law_thin W R (gCons (gVar 0) (gCons (gVar 2) gNil))))
    (gRet (gTup (gCons (gBin addD (gBin mulD (gVar 4) (gBin ixD (gVar 1) (gC (.int 0)))) (gVar 5)) (gCons (gBin addD (gBin mulD (gVar 4) (gBin ixD (gVar 1) (gC (.int 1)))) (gVar 6)) (gCons (gBin mulD (gVar 4) (gBin ixD (gVar 1) (gC (.int 2)))) gNil)))))) gSkip)
    (gSeq (gIfS (gB (gBin eqD (gVar 3) (gC (.int 4)))) (gRet (gTup (gCons (gBin ixD (gVar 1) (gC (.int 0))) (gCons (gBin subD (gBin addD (gBin ixD (gVar 1) (gC (.int 1))) (gC (.int 1))) (gBin mulD (gC (.int 2)) (gCall sp__law_draw W R (gCons (gVar 0) (gCons (gC (.int 2)) gNil))))) (gCons (gBin ixD (gVar 1) (gC (.int 2))) gNil))))) gSkip)
    (gRet (gCall sp__law_golden W R (gCons (gVar 0) (gCons (gVar 2) gNil))))))))
def g__law_are_right (W : WD) (R : Er → Prop) : GS :=
  (gSeq (gPar [2, 3, 4] (gCons (gCall sp__law_sign W R (gCons (gBin ixD (gVar 0) (gC (.int 0))) (gCons (gBin ixD (gVar 0) (gC (.int 1))) gNil))) (gCons (gCall sp__law_sign W R (gCons (gBin ixD (gVar 1) (gC (.int 0))) (gCons (gBin ixD (gVar 1) (gC (.int 1))) gNil))) (gCons (gCall sp__law_apart W R (gCons (gVar 0) (gCons (gVar 1) gNil))) gNil))))
    (gSeq (gIfS (gNotT (gTru (gCall sp__law_same W R (gCons (gTup (gCons (gCall sp_sign W R (gCons (gVar 0) gNil)) (gCons (gCall sp_sign W R (gCons (gVar 1) gNil)) (gCons (gCallK sp_sign 0 1 [0] W R gNil (gCons (gVar 0) gNil)) gNil)))) (gCons (gTup (gCons (gVar 2) (gCons (gVar 3) (gCons (gVar 2) gNil)))) gNil))))) (gRet (gC (.bl false))) gSkip)
    (gSeq (gIfS (gNotT (gTru (gCall sp__law_same W R (gCons (gTup (gCons (gCall sp_is_below W R (gCons (gVar 0) (gCons (gVar 1) gNil))) (gCons (gCall sp_is_below W R (gCons (gVar 1) (gCons (gVar 0) gNil))) (gCons (gCallK sp_is_below 0 2 [1, 0] W R gNil (gCons (gVar 1) (gCons (gVar 0) gNil))) gNil)))) (gCons (gTup (gCons (gBin ltD (gVar 4) (gC (.int 0))) (gCons (gBin gtD (gVar 4) (gC (.int 0))) (gCons (gBin ltD (gVar 4) (gC (.int 0))) gNil)))) gNil))))) (gRet (gC (.bl false))) gSkip)
    (gSeq (gIfS (gNotT (gTru (gCall sp__law_same W R (gCons (gTup (gCons (gCall sp_are_equal W R (gCons (gVar 0) (gCons (gVar 1) gNil))) (gCons (gCallK sp_are_equal 0 2 [0, 1] W R gNil (gCons (gVar 1) (gCons (gVar 0) gNil))) (gCons (gCall sp_are_equal W R (gCons (gVar 0) (gCons (gVar 0) gNil))) gNil)))) (gCons (gTup (gCons (gBin eqD (gVar 4) (gC (.int 0))) (gCons (gBin eqD (gVar 4) (gC (.int 0))) (gCons (gC (.bl true)) gNil)))) gNil))))) (gRet (gC (.bl false))) gSkip)
    (gSeq (gFor (gIter (gTup (gCons (gVar 0) (gCons (gVar 1) gNil)))) (ggName 5) (gSeq (gSet 6 (gAnd (gBin eqD (gBin modD (gBlt intD (gCons (gBin ixD (gVar 5) (gC (.int 0))) gNil)) (gBin ixD (gVar 5) (gC (.int 2)))) (gC (.int 0))) (gBin eqD (gBin modD (gBlt intD (gCons (gBin ixD (gVar 5) (gC (.int 1))) gNil)) (gBin ixD (gVar 5) (gC (.int 2)))) (gC (.int 0)))))
    (gSeq (gIfS (gNotT (gTru (gCall sp__law_same W R (gCons (gTup (gCons (gCall sp_is_whole W R (gCons (gVar 5) gNil)) (gCons (gCallK sp_is_whole 0 1 [0] W R gNil (gCons (gVar 5) gNil)) gNil))) (gCons (gTup (gCons (gVar 6) (gCons (gVar 6) gNil))) gNil))))) (gRet (gC (.bl false))) gSkip)
    (gIfS (gNotT (gTru (gCall sp__law_is_between W R (gCons (gVar 5) (gCons (gCall sp_integer_below W R (gCons (gVar 5) gNil)) (gCons (gCall sp_integer_above W R (gCons (gVar 5) gNil)) gNil)))))) (gRet (gC (.bl false))) gSkip))))
    (gRet (gCall sp__law_is_between W R (gCons (gVar 0) (gCons (gCallK sp_integer_below 0 1 [0] W R gNil (gCons (gVar 0) gNil)) (gCons (gCallK sp_integer_above 0 1 [0] W R gNil (gCons (gVar 0) gNil)) gNil))))))))))
def g_law (W : WD) (R : Er → Prop) : GS :=
  (gSeq (gFor (gRng1 (gCons (gC (.int 6)) gNil)) (ggName 2) (gSeq (gSet 3 (gCall sp__law_golden W R (gCons (gVar 1) (gCons (gC (.int 10)) gNil))))
    (gIfS (gNotT (gTru (gCall sp__law_are_right W R (gCons (gVar 3) (gCons (gCall sp__law_other W R (gCons (gVar 1) (gCons (gVar 3) (gCons (gC (.int 10)) gNil)))) gNil))))) (gRet (gC (.bl false))) gSkip)))
    (gSeq (gIfS (gB (gBin eqD (gCall sp__law_draw W R (gCons (gVar 1) (gCons (gC (.int 8)) gNil))) (gC (.int 0)))) (gSeq (gSet 3 (gCall sp__law_golden W R (gCons (gVar 1) (gCons (gC (.int 80)) gNil))))
    (gRet (gCall sp__law_are_right W R (gCons (gVar 3) (gCons (gCall sp__law_other W R (gCons (gVar 1) (gCons (gVar 3) (gCons (gC (.int 80)) gNil)))) gNil))))) gSkip)
    (gRet (gC (.bl true)))))
theorem len_is_integer : ∀ W ds Q R, sp_is_integer W ds Q R → ds.length = 1 := by
  rintro W ds Q R ⟨x, rfl, _⟩
  rfl
theorem law_is_integer : ∀ W ds Q R, sp_is_integer W ds Q R → g_is_integer W R (endsD Q) (startD 1 ds) := by
  rintro W ds Q R ⟨x, rfl, h, q⟩
  have k1 : knownT "int" = true := by decide
  have k2 : knownT "bool" = true := by decide
  simp [g_is_integer, startD, h, k1, k2]
  cases x <;> simp_all [tyD, isiB, isTb, isI]
theorem len_is_number : ∀ W ds Q R, sp_is_number W ds Q R → ds.length = 1 := by
  rintro W ds Q R ⟨a, b, m, rfl, _⟩
  rfl
theorem law_is_number : ∀ W ds Q R, sp_is_number W ds Q R → g_is_number W R (endsD Q) (startD 1 ds) := by
  rintro W ds Q R ⟨a, b, m, rfl, h, q⟩
  have k1 : knownT "tuple" = true := by decide
  have k2 : isiB "tuple" (tri a b m) = true := by rfl
  simp [g_is_number, startD, k1, k2, tyD, sp_is_integer, isI, h, q]
theorem len_pair_sign : ∀ W ds Q R, sp_pair_sign W ds Q R → ds.length = 2 := by
  rintro W ds Q R ⟨x, y, rfl, _⟩
  rfl
theorem pair_sz {a b : Int} (ha : Sz 200000 a) (hb : Sz 200000 b) : ND.MulOk 2 a ∧ ND.MulOk (2 * a + b) (2 * a + b) ∧ ND.MulOk 5 b ∧ ND.MulOk (5 * b) b := by
  have h2 : Sz 2 (2 : Int) := by decide
  have h5 : Sz 3 (5 : Int) := by decide
  have hx : Sz 200003 (2 * a + b) := ((h2.mul ha).mono (by decide : 2 + 200000 ≤ 200002)).add (hb.mono (by decide))
  exact ⟨h2.ok ha (by decide), hx.ok hx (by decide), h5.ok hb (by decide), (h5.mul hb).ok hb (by decide)⟩
theorem law_pair_sign : ∀ W ds Q R, sp_pair_sign W ds Q R → g_pair_sign W R (endsD Q) (startD 4 ds) := by
  rintro W ds Q R ⟨a, b, rfl, ha, hb, q⟩
  obtain ⟨m1, m2, m3, m4⟩ := pair_sz ha hb
  simp [g_pair_sign, startD, m1, m2, m3, m4]
  unfold psg at q
  generalize 2 * a + b = x at q ⊢
  generalize 5 * b * b = y at q ⊢
  generalize x * x = z at q ⊢
  repeat' split
  all_goals simp_all
  all_goals first | omega | (split at q <;> first | exact q | omega) | skip
theorem len__law_sign : ∀ W ds Q R, sp__law_sign W ds Q R → ds.length = 2 := len_pair_sign
theorem law__law_sign : ∀ W ds Q R, sp__law_sign W ds Q R → g__law_sign W R (endsD Q) (startD 3 ds) := by
  rintro W ds Q R ⟨a, b, rfl, ha, hb, q⟩
  obtain ⟨m1, m2, m3, m4⟩ := pair_sz ha hb
  simp [g__law_sign, startD, m1, m2, m3, m4]
  have tie := fun h => no_tie (x := 2 * a + b) (b := b) h
  unfold psg at q
  generalize 2 * a + b = x at q tie ⊢
  generalize 5 * b * b = y at q tie ⊢
  generalize x * x = z at q tie ⊢
  repeat' split
  all_goals simp_all
  all_goals first | omega | (split at q <;> first | exact q | omega) | skip
theorem len_sign_of : ∀ W ds Q R, sp_sign_of W ds Q R → ds.length = 1 := by
  rintro W ds Q R ⟨a, b, m, rfl, _⟩
  rfl
theorem law_sign_of : ∀ W ds Q R, sp_sign_of W ds Q R → g_sign_of W R (endsD Q) (startD 1 ds) := by
  rintro W ds Q R ⟨a, b, m, rfl, ha, hb, q⟩
  simp [g_sign_of, startD]
  exact ⟨a, b, rfl, ha, hb, q⟩
theorem cmp_sz {N : Nat} {a b m c d n : Int} (h : Big N a b m) (k : Big N c d n) (hN : N ≤ 50000) : ND.MulOk a n ∧ ND.MulOk c m ∧ ND.MulOk b n ∧ ND.MulOk d m ∧ Sz 200000 (a * n - c * m) ∧ Sz 200000 (b * n - d * m) := by
  obtain ⟨h1, h2, h3, _⟩ := h
  obtain ⟨k1, k2, k3, _⟩ := k
  have e : N + N < 1000000 := by omega
  exact ⟨h1.ok k3 e, k1.ok h3 e, h2.ok k3 e, k2.ok h3 e, ((h1.mul k3).sub (k1.mul h3)).mono (by omega), ((h2.mul k3).sub (k2.mul h3)).mono (by omega)⟩
theorem len_compared : ∀ W ds Q R, sp_compared W ds Q R → ds.length = 2 := by
  rintro W ds Q R ⟨a, b, m, c, d, n, rfl, _⟩
  rfl
theorem law_compared : ∀ W ds Q R, sp_compared W ds Q R → g_compared W R (endsD Q) (startD 2 ds) := by
  rintro W ds Q R ⟨a, b, m, c, d, n, rfl, h, k, q⟩
  obtain ⟨m1, m2, m3, m4, s1, s2⟩ := cmp_sz h k (by decide)
  simp [g_compared, startD, m1, m2, m3, m4]
  exact ⟨_, _, rfl, s1, s2, q⟩
theorem len__law_apart : ∀ W ds Q R, sp__law_apart W ds Q R → ds.length = 2 := len_compared
theorem law__law_apart : ∀ W ds Q R, sp__law_apart W ds Q R → g__law_apart W R (endsD Q) (startD 2 ds) := by
  rintro W ds Q R ⟨a, b, m, c, d, n, rfl, h, k, q⟩
  obtain ⟨m1, m2, m3, m4, s1, s2⟩ := cmp_sz h k (by decide)
  simp [g__law_apart, startD, m1, m2, m3, m4]
  exact ⟨_, _, rfl, s1, s2, q⟩
theorem len_negative : ∀ W ds Q R, sp_negative W ds Q R → ds.length = 1 := by
  rintro W ds Q R ⟨a, b, m, rfl, _⟩
  rfl
theorem law_negative : ∀ W ds Q R, sp_negative W ds Q R → g_negative W R (endsD Q) (startD 1 ds) := by
  rintro W ds Q R ⟨a, b, m, rfl, q⟩
  simp [g_negative, startD, q]
theorem len_is_whole_number : ∀ W ds Q R, sp_is_whole_number W ds Q R → ds.length = 1 := by
  rintro W ds Q R ⟨a, b, m, rfl, _⟩
  rfl
theorem law_is_whole_number : ∀ W ds Q R, sp_is_whole_number W ds Q R → g_is_whole_number W R (endsD Q) (startD 1 ds) := by
  rintro W ds Q R ⟨a, b, m, rfl, h, q⟩
  have h0 : 0 < m := by omega
  simp [g_is_whole_number, startD, h0]
  unfold wholeB at q
  split <;> simp_all
theorem len_floor_integer : ∀ W ds Q R, sp_floor_integer W ds Q R → ds.length = 1 := by
  rintro W ds Q R ⟨a, b, m, rfl, _⟩
  rfl
theorem flr_sz {a b m : Int} (h : Big 6000 a b m) : ND.MulOk 2 a ∧ ND.MulOk 2 m ∧ ND.MulOk 5 b ∧ ND.MulOk (5 * b) b ∧ 0 ≤ 5 * b * b ∧ (5 * b * b).toNat.log2 < 13000 ∧ 0 < m ∧ (2 * m).natAbs.log2 < 9000 := by
  obtain ⟨h1, h2, h3, h4⟩ := h
  have e2 : Sz 2 (2 : Int) := by decide
  have e5 : Sz 3 (5 : Int) := by decide
  have hs := (e5.mul h2).mul h2
  obtain ⟨r, _, r0, r1, _⟩ := root5 b
  have r2 : 0 ≤ r * r := Int.mul_nonneg r0 r0
  have hp : 0 ≤ 5 * b * b := Int.le_trans r2 r1
  have hl := hs.log
  have ht : (5 * b * b).toNat = (5 * b * b).natAbs := by omega
  rw [ht]
  have hm := (e2.mul h3).log
  exact ⟨e2.ok h1 (by decide), e2.ok h3 (by decide), e5.ok h2 (by decide), (e5.mul h2).ok h2 (by decide), hp, by omega, by omega, by omega⟩
theorem law_floor_integer : ∀ W ds Q R, sp_floor_integer W ds Q R → g_floor_integer W R (endsD Q) (startD 5 ds) := by
  rintro W ds Q R ⟨a, b, m, rfl, h, q⟩
  obtain ⟨m1, m2, m3, m4, p0, p1, p2, p3⟩ := flr_sz h
  have p4 : 0 < 2 * m := by omega
  unfold flr at q
  by_cases hb : 0 ≤ b
  · simp_all [g_floor_integer, startD]
  · rw [if_neg hb] at q
    simp [g_floor_integer, startD, m1, m2, m3, m4, p0, p1, p2, p3, p4, hb, q]
theorem len_ceiling_integer : ∀ W ds Q R, sp_ceiling_integer W ds Q R → ds.length = 1 := by
  rintro W ds Q R ⟨a, b, m, rfl, _⟩
  rfl
theorem Big.neg {N : Nat} {a b m : Int} (h : Big N a b m) : Big N (-a) (-b) m := ⟨h.1.neg, h.2.1.neg, h.2.2⟩
theorem law_ceiling_integer : ∀ W ds Q R, sp_ceiling_integer W ds Q R → g_ceiling_integer W R (endsD Q) (startD 1 ds) := by
  rintro W ds Q R ⟨a, b, m, rfl, h, q⟩
  simp [g_ceiling_integer, startD]
  exact ⟨a, b, m, rfl, _, _, _, rfl, h.neg, q⟩
theorem len_need_numbers : ∀ W ds Q R, sp_need_numbers W ds Q R → ds.length = 1 := by
  rintro W ds Q R ⟨xs, rfl, _⟩
  rfl
theorem need_loop (W : WD) (R : Er → Prop) (E : Ed) (t : SV) (hE : ∀ v, E.nx [t, v]) : ∀ (xs : List D) (v : SV), (∀ x ∈ xs, ∃ a b m, x = tri a b m ∧ 1 ≤ m) → forG (ggName 1) (gIfS (gNotT (gTru (gCall sp_is_number W R (gCons (gVar 1) gNil)))) gNever gSkip) xs E [t, v]
  | [], v, _ => hE v
  | x :: xs, v, h => by
    obtain ⟨a, b, m, rfl, hm⟩ := h x List.mem_cons_self
    have ih := need_loop W R E t hE xs (.d (tri a b m)) fun y hy => h y (List.mem_cons_of_mem _ hy)
    simp [forG]
    exact ⟨a, b, m, rfl, hm, rfl, ih⟩
theorem law_need_numbers : ∀ W ds Q R, sp_need_numbers W ds Q R → g_need_numbers W R (endsD Q) (startD 2 ds) := by
  rintro W ds Q R ⟨xs, rfl, h, q⟩
  simp [g_need_numbers, startD]
  exact need_loop W R _ _ (fun _ => q) xs _ h
theorem need_one {a b m : Int} (h : 1 ≤ m) {Q : D → Prop} {W : WD} {R : Er → Prop} (q : Q .non) : sp_need_numbers W [.tup [tri a b m]] Q R :=
  ⟨_, rfl, fun x hx => ⟨a, b, m, List.mem_singleton.mp hx, h⟩, q⟩
theorem need_two {a b m c d n : Int} (h : 1 ≤ m) (k : 1 ≤ n) {Q : D → Prop} {W : WD} {R : Er → Prop} (q : Q .non) : sp_need_numbers W [.tup [tri a b m, tri c d n]] Q R :=
  ⟨_, rfl, fun x hx => by
    rcases List.mem_cons.mp hx with e | e
    · exact ⟨a, b, m, e, h⟩
    · exact ⟨c, d, n, List.mem_singleton.mp e, k⟩, q⟩
theorem Big.up {N M : Nat} {a b m : Int} (h : Big N a b m) (e : N ≤ M) : Big M a b m := ⟨h.1.mono e, h.2.1.mono e, h.2.2.1.mono e, h.2.2.2⟩
theorem len_sign : ∀ W ds Q R, sp_sign W ds Q R → ds.length = 1 := by
  rintro W ds Q R ⟨a, b, m, rfl, _⟩
  rfl
theorem law_sign : ∀ W ds Q R, sp_sign W ds Q R → g_sign W R (endsD Q) (startD 1 ds) := by
  rintro W ds Q R ⟨a, b, m, rfl, h, q⟩
  simp [g_sign, startD]
  exact need_one h.2.2.2 ⟨a, b, m, rfl, h.1.mono (by decide), h.2.1.mono (by decide), q⟩
theorem len_is_below : ∀ W ds Q R, sp_is_below W ds Q R → ds.length = 2 := by
  rintro W ds Q R ⟨a, b, m, c, d, n, rfl, _⟩
  rfl
theorem law_is_below : ∀ W ds Q R, sp_is_below W ds Q R → g_is_below W R (endsD Q) (startD 2 ds) := by
  rintro W ds Q R ⟨a, b, m, c, d, n, rfl, h, k, q⟩
  simp [g_is_below, startD]
  refine need_two h.2.2.2 k.2.2.2 ⟨a, b, m, c, d, n, rfl, h.up (by decide), k.up (by decide), ?_⟩
  simpa using q
theorem len_are_equal : ∀ W ds Q R, sp_are_equal W ds Q R → ds.length = 2 := by
  rintro W ds Q R ⟨a, b, m, c, d, n, rfl, _⟩
  rfl
theorem law_are_equal : ∀ W ds Q R, sp_are_equal W ds Q R → g_are_equal W R (endsD Q) (startD 2 ds) := by
  rintro W ds Q R ⟨a, b, m, c, d, n, rfl, h, k, q⟩
  simp [g_are_equal, startD]
  refine need_two h.2.2.2 k.2.2.2 ⟨a, b, m, c, d, n, rfl, h.up (by decide), k.up (by decide), ?_⟩
  simpa using q
theorem len_integer_below : ∀ W ds Q R, sp_integer_below W ds Q R → ds.length = 1 := len_floor_integer
theorem law_integer_below : ∀ W ds Q R, sp_integer_below W ds Q R → g_integer_below W R (endsD Q) (startD 1 ds) := by
  rintro W ds Q R ⟨a, b, m, rfl, h, q⟩
  simp [g_integer_below, startD]
  exact need_one h.2.2.2 ⟨a, b, m, rfl, h, q⟩
theorem len_integer_above : ∀ W ds Q R, sp_integer_above W ds Q R → ds.length = 1 := len_ceiling_integer
theorem law_integer_above : ∀ W ds Q R, sp_integer_above W ds Q R → g_integer_above W R (endsD Q) (startD 1 ds) := by
  rintro W ds Q R ⟨a, b, m, rfl, h, q⟩
  simp [g_integer_above, startD]
  exact need_one h.2.2.2 ⟨a, b, m, rfl, h, q⟩
theorem len_is_whole : ∀ W ds Q R, sp_is_whole W ds Q R → ds.length = 1 := len_is_whole_number
theorem law_is_whole : ∀ W ds Q R, sp_is_whole W ds Q R → g_is_whole W R (endsD Q) (startD 1 ds) := by
  rintro W ds Q R ⟨a, b, m, rfl, h, q⟩
  simp [g_is_whole, startD]
  exact need_one h ⟨a, b, m, rfl, h, q⟩

theorem len__law_same : ∀ W ds Q R, sp__law_same W ds Q R → ds.length = 2 := by
  rintro W ds Q R ⟨x, rfl, _⟩
  rfl
theorem law__law_same : ∀ W ds Q R, sp__law_same W ds Q R → g__law_same W R (endsD Q) (startD 2 ds) := by
  rintro W ds Q R ⟨x, rfl, h1, h2, h3, q⟩
  simp [g__law_same, startD, h1, h2, h3, q]
theorem len__law_pick : ∀ W ds Q R, sp__law_pick W ds Q R → ds.length = 2 := by
  rintro W ds Q R ⟨d, l, xs, _, rfl, _⟩
  rfl
theorem law__law_pick : ∀ W ds Q R, sp__law_pick W ds Q R → g__law_pick W R (endsD Q) (startD 2 ds) := by
  rintro W ds Q R ⟨d, l, xs, rfl, rfl, h1, h2, q⟩
  simp [g__law_pick, startD]
  refine ⟨d, l, _, rfl, rfl, by omega, by exact_mod_cast h2, fun r hr0 hr1 => ?_⟩
  have hr : r.toNat < xs.length := by omega
  refine ⟨xs[r.toNat], ?_, q _ (List.getElem_mem hr)⟩
  simp [atI, ixN, hr0, hr1, hr]
theorem dr {d l : Addr} {k : Int} {Q : D → Prop} {R : Er → Prop} (h1 : 0 < k) (h2 : k < 2 ^ 62) (q : ∀ r, 0 ≤ r → r < k → Q (.int r)) : sp__law_draw (some (d, l)) [dkD d, .int k] Q R := ⟨d, l, k, rfl, rfl, h1, h2, q⟩
theorem e62 : (2 : Int) ^ 62 = 4611686018427387904 := by decide
theorem len__law_thin : ∀ W ds Q R, sp__law_thin W ds Q R → ds.length = 2 := by
  rintro W ds Q R ⟨d, l, n, _, rfl, _⟩
  rfl
theorem Sz.small {i : Int} (h1 : -1000 ≤ i) (h2 : i ≤ 1000) : Sz 20 i := by
  show i.natAbs < 2 ^ 20
  omega
theorem sz_nat {n : Nat} (h : n ≤ 1000) : Sz 20 (n : Int) := Sz.small (by omega) (by omega)
theorem thin_loop (E : Ed) (x y z : SV) (N : Nat) (hE : ∀ a b v, Sz N a → Sz N b → E.nx [x, y, z, .d (.int a), .d (.int b), v]) : ∀ (ds : List D) (a b : Int) (M : Nat) (v : SV), Sz M a → Sz M b → M + ds.length ≤ N →
    forG (ggName 5) (gPar [3, 4] (gCons (gBin subD (gVar 3) (gVar 4)) (gCons (gUn negD (gVar 3)) gNil))) ds E [x, y, z, .d (.int a), .d (.int b), v]
  | [], a, b, M, v, h1, h2, h3 => hE a b v (h1.mono (by simpa using h3)) (h2.mono (by simpa using h3))
  | d :: ds, a, b, M, v, h1, h2, h3 => by
    have ih := thin_loop E x y z N hE ds (a - b) (-a) (M + 1) (.d d) (h1.sub h2) (h1.neg.mono (by omega)) (by simp at h3; omega)
    simp [forG]
    exact ih
theorem law__law_thin : ∀ W ds Q R, sp__law_thin W ds Q R → g__law_thin W R (endsD Q) (startD 6 ds) := by
  rintro W ds Q R ⟨d, l, n, rfl, rfl, h1, h2, q⟩
  have m1 : ND.MulOk 29 (n : Int) := (Sz.small (by decide) (by decide)).ok (sz_nat (by omega)) (by decide)
  simp [g__law_thin, startD, m1]
  refine dr (by omega) (by rw [e62]; omega) fun r hr0 hr1 => ?_
  rw [rng1D_i]
  refine ⟨by rw [e62]; omega, by rw [e62]; omega, ?_⟩
  refine thin_loop _ _ _ _ (29 * n + 2) (fun a b v ha hb => ?_) _ 1 0 1 _ (by decide) (by decide) ?_
  · simp
    refine dr (by decide) (by decide) fun r2 _ _ => ?_
    simp
    split
    · exact q a b ha hb
    · exact q (-a) (-b) ha.neg hb.neg
  · simp [ND.intsFrom]
    omega
theorem cat_nines (acc : Array Nat) : ∀ m : Nat, ((List.replicate m (Str.ofString "9").cps).foldl (· ++ ·) acc).toList = acc.toList ++ List.replicate m 57
  | 0 => by simp
  | m + 1 => by
    rw [List.replicate_succ, List.foldl_cons, cat_nines (acc ++ (Str.ofString "9").cps) m]
    have e : (Str.ofString "9").cps.toList = [57] := by decide +kernel
    rw [Array.toList_append, e, List.replicate_succ, List.append_assoc]
    rfl
theorem digits_lt : ∀ (cs : List Nat) (a : Nat), NumText.AllDigits cs → cs.foldl (fun acc c => acc * 10 + (c - 48)) a < (a + 1) * 10 ^ cs.length
  | [], a, _ => by simp
  | c :: cs, a, h => by
    have hc := h.head
    have ih := digits_lt cs (a * 10 + (c - 48)) h.tail
    rw [List.foldl_cons, List.length_cons]
    refine Nat.lt_of_lt_of_le ih ?_
    rw [Nat.pow_succ, Nat.mul_comm (10 ^ cs.length) 10, ← Nat.mul_assoc]
    exact Nat.mul_le_mul_right _ (by omega)
theorem nine_list {k : Nat} (hk : 1 ≤ k) : (Txt.mul (Str.ofString "9") (k : Int)).cps.toList = List.replicate k 57 := by
  unfold Txt.mul
  rw [if_neg (by omega)]
  split
  · rename_i h
    have e0 : (Str.ofString "9").length = 1 := by decide +kernel
    rw [e0] at h
    simp at h
    have : k = 1 := by omega
    subst this
    decide +kernel
  · rw [Int.toNat_natCast]
    show ((List.replicate k (Str.ofString "9").cps).foldl (· ++ ·) #[]).toList = _
    rw [cat_nines]
    simp
theorem nine_text {k : Nat} (hk : 1 ≤ k) (h : k ≤ 600) : ∃ i : Int, intText? (Txt.mul (Str.ofString "9") (k : Int)) = some i ∧ (Txt.mul (Str.ofString "9") (k : Int)).length ≤ 640 ∧ 0 ≤ i ∧ i < 10 ^ k := by
  have e := nine_list hk
  have hl : (Txt.mul (Str.ofString "9") (k : Int)).length = k := by
    show (Txt.mul (Str.ofString "9") (k : Int)).cps.size = k
    rw [← Array.length_toList, e, List.length_replicate]
  have hd : NumText.AllDigits (Txt.mul (Str.ofString "9") (k : Int)).cps.toList := by
    rw [e]
    intro c hc
    rw [List.eq_of_mem_replicate hc]
    omega
  have hne : (Txt.mul (Str.ofString "9") (k : Int)).cps.toList ≠ [] := by
    rw [e]
    intro z
    have := congrArg List.length z
    simp at this
    omega
  have ht := intText_digits hd hne (by rw [hl]; omega)
  refine ⟨_, ht, by rw [hl]; omega, Int.natCast_nonneg _, ?_⟩
  have hv := digits_lt _ 0 hd
  have el : (Txt.mul (Str.ofString "9") (k : Int)).cps.toList.length = k := by rw [e, List.length_replicate]
  rw [el, Nat.zero_add, Nat.one_mul] at hv
  have h2 : ((10 : Int) ^ k) = (((10 : Nat) ^ k : Nat) : Int) := by simp
  rw [h2]
  exact Int.ofNat_lt.mpr hv
theorem len__law_integer : ∀ W ds Q R, sp__law_integer W ds Q R → ds.length = 2 := by
  rintro W ds Q R ⟨d, l, n, _, rfl, _⟩
  rfl
theorem ten_sz {k : Nat} {i : Int} (h0 : 0 ≤ i) (h : i < 10 ^ (6 * k)) : Sz (20 * k) i := by
  have e : (10 : Nat) ^ (6 * k) ≤ 2 ^ (20 * k) := by
    rw [Nat.pow_mul, Nat.pow_mul]
    exact Nat.pow_le_pow_left (by decide) k
  show i.natAbs < 2 ^ (20 * k)
  have h2 : ((10 : Int) ^ (6 * k)) = (((10 : Nat) ^ (6 * k) : Nat) : Int) := by simp
  rw [h2] at h
  omega
theorem int_loop (d l : Addr) (R : Er → Prop) (E : Ed) (y z u : SV) (N : Nat) (hN : N ≤ 100) (hE : ∀ a v, Sz (20 * N) a → E.nx [.d (dkD d), y, z, u, .d (.int a), v]) : ∀ (ds : List D) (a : Int) (M : Nat) (v : SV), 0 ≤ a → a < 10 ^ (6 * M) → M + ds.length ≤ N →
    forG (ggName 5) (gSet 4 (gBin addD (gBin mulD (gVar 4) (gBin powD (gC (.int 10)) (gC (.int 6)))) (gCall sp__law_draw (some (d, l)) R (gCons (gVar 0) (gCons (gBin powD (gC (.int 10)) (gC (.int 6))) gNil))))) ds E [.d (dkD d), y, z, u, .d (.int a), v]
  | [], a, M, v, h0, h1, h3 => hE a v ((ten_sz h0 h1).mono (by simp at h3; omega))
  | x :: ds, a, M, v, h0, h1, h3 => by
    have m1 : ND.MulOk a 1000000 := (ten_sz h0 h1).ok (n := 20 * M) (m := 20) (by decide) (by simp at h3; omega)
    simp [forG, m1]
    refine dr (by decide) (by decide) fun r r0 r1 => ?_
    simp
    refine int_loop d l R E y z u N hN hE ds _ (M + 1) (.d x) ?_ ?_ (by simp at h3; omega)
    · omega
    · have e : (10 : Int) ^ (6 * (M + 1)) = 10 ^ (6 * M) * 1000000 := by
        rw [Nat.mul_add, Int.pow_add]
        rfl
      rw [e]
      omega
theorem law__law_integer : ∀ W ds Q R, sp__law_integer W ds Q R → g__law_integer W R (endsD Q) (startD 6 ds) := by
  rintro W ds Q R ⟨d, l, n, rfl, rfl, h1, h2, q⟩
  have m1 : ND.MulOk 6 (n : Int) := (Sz.small (by decide) (by decide)).ok (sz_nat (by omega)) (by decide)
  simp [g__law_integer, startD, m1]
  refine dr (by decide) (by decide) fun way w0 w1 => ?_
  refine dr (by decide) (by decide) fun fc f0 f1 => ?_
  have mf : ND.MulOk 2 fc := (Sz.small (by decide) (by decide)).ok (Sz.small (by omega) (by omega)) (by decide)
  have sf : Sz 2 (1 - 2 * fc) := by
    show (1 - 2 * fc).natAbs < 2 ^ 2
    omega
  simp [mf]
  generalize 1 - 2 * fc = fac at sf
  split
  · have wc : way = 0 ∨ way = 1 ∨ way = 2 ∨ way = 3 ∨ way = 4 ∨ way = 5 := by omega
    have fin : ∀ k : Int, 0 < k → k ≤ 1000 → sp__law_draw (some (d, l)) [dkD d, .int k] (fun y => mulD (.int fac) y Q) R := fun k k0 k1 => by
      refine dr k0 (by rw [e62]; omega) fun r r0 r1 => ?_
      have sr : Sz 20 r := Sz.small (by omega) (by omega)
      simp
      exact ⟨sf.ok sr (by decide), q _ ((sf.mul sr).mono (by omega))⟩
    rcases wc with h | h | h | h | h | h <;> subst h <;> simp [ixD, atI, ixN] <;> exact fin _ (by decide) (by decide)
  · split
    · obtain ⟨i, e1, e2, i0, i1⟩ := nine_text (k := 6 * n) (by omega) (by omega)
      have ek : (6 * (n : Int)) = ((6 * n : Nat) : Int) := by simp
      rw [ek]
      refine ⟨by omega, ?_, by decide, i, e1, e2, ?_⟩
      · have : (Str.ofString "9").length = 1 := by decide
        rw [this]
        rw [Int.toNat_natCast, Nat.one_mul]
        exact Nat.le_trans (by omega : 6 * n ≤ 1000) (by decide : 1000 ≤ sizeLine)
      · refine dr (by decide) (by decide) fun r r0 r1 => ?_
        have si : Sz (20 * n + 6) (i - r) := by
          have s1 := ten_sz i0 i1
          have s2 : Sz 20 r := Sz.small (by omega) (by omega)
          exact ((s1.mono (by omega : 20 * n ≤ 20 * n + 0)).sub (s2.mono (by omega))).mono (by omega)
        simp
        exact ⟨sf.ok si (by omega), q _ ((sf.mul si).mono (by omega))⟩
    · refine dr (by omega) (by rw [e62]; omega) fun r r0 r1 => ?_
      simp
      refine ⟨by omega, by omega, ?_⟩
      refine int_loop d l R _ _ _ _ n (by omega) (fun a v sa => ?_) _ 0 0 _ (by decide) (by decide) (by simp [ND.intsFrom]; omega)
      simp
      exact ⟨sf.ok sa (by omega), q _ ((sf.mul sa).mono (by omega))⟩
theorem len__law_golden : ∀ W ds Q R, sp__law_golden W ds Q R → ds.length = 2 := by
  rintro W ds Q R ⟨d, l, n, _, rfl, _⟩
  rfl
theorem law__law_golden : ∀ W ds Q R, sp__law_golden W ds Q R → g__law_golden W R (endsD Q) (startD 6 ds) := by
  rintro W ds Q R ⟨d, l, n, rfl, rfl, h1, h2, q⟩
  simp [g__law_golden, startD]
  refine ⟨d, l, _, rfl, rfl, by decide, by decide, fun x hx => ?_⟩
  obtain ⟨k, rfl, k0, k1⟩ : ∃ k : Int, x = .int k ∧ 0 ≤ k ∧ k ≤ 12 := by
    simp at hx
    rcases hx with h | h | h | h | h | h | h | h | h | h <;> subst h <;> exact ⟨_, rfl, by decide, by decide⟩
  simp
  refine ite2 (fun h => ?a) (fun h => ?b)
  case' a =>
    refine ⟨d, l, n, rfl, rfl, h1, h2, fun i hi => ?_⟩
    simp
    have hD : 1 ≤ (1 + if i < 0 then -i else i) ∧ Sz (20 * n + 21) (1 + if i < 0 then -i else i) := by
      have h5 : i.natAbs < 2 ^ (20 * n + 20) := hi
      refine ⟨by split <;> omega, ?_⟩
      have h6 : (1 + if i < 0 then -i else i).natAbs = i.natAbs + 1 := by split <;> omega
      show (1 + if i < 0 then -i else i).natAbs < 2 ^ (20 * n + 21)
      rw [h6, Nat.pow_succ]
      omega
    generalize (1 + if i < 0 then -i else i) = D0 at hD ⊢
  case' b =>
    have hD : 1 ≤ k ∧ Sz (20 * n + 21) k := ⟨by omega, (Sz.small (by omega) (by omega)).mono (by omega)⟩
    generalize k = D0 at hD ⊢
  all_goals
    refine dr (by decide) (by decide) fun w w0 w1 => ?_
    simp
    refine ite2 (fun h => ?_) (fun h => ?_)
    · refine ⟨d, l, n, rfl, rfl, h1, h2, fun i hi => ?_⟩
      simp
      exact ⟨hD.2.ok hi (by omega), q _ _ _ ⟨(hD.2.mul hi).mono (by omega), by show (0 : Int).natAbs < _; exact Nat.two_pow_pos _, hD.2.mono (by omega), hD.1⟩⟩
    · refine ite2 (fun h => ?_) (fun h => ?_)
      · refine ⟨d, l, n, rfl, rfl, h1, h2, fun a b ha hb => ?_⟩
        simp
        exact q _ _ _ ⟨ha.mono (by omega), hb.mono (by omega), hD.2.mono (by omega), hD.1⟩
      · refine ite2 (fun h => ?_) (fun h => ?_)
        · refine ⟨d, l, n, rfl, rfl, h1, h2, fun a b ha hb => ?_⟩
          simp
          refine ⟨d, l, 2, rfl, rfl, by decide, by decide, fun i hi => ?_⟩
          simp
          exact ⟨hD.2.ok hi (by omega), q _ _ _ ⟨((((hD.2.mul hi).mono (by omega : _ ≤ 60 * n + 59)).add (ha.mono (by omega)))).mono (by omega), hb.mono (by omega), hD.2.mono (by omega), hD.1⟩⟩
        · refine ⟨d, l, n, rfl, rfl, h1, h2, fun i hi => ?_⟩
          refine ⟨d, l, n, rfl, rfl, h1, h2, fun j hj => ?_⟩
          exact q _ _ _ ⟨hi.mono (by omega), hj.mono (by omega), hD.2.mono (by omega), hD.1⟩
theorem len__law_other : ∀ W ds Q R, sp__law_other W ds Q R → ds.length = 3 := by
  rintro W ds Q R ⟨d, l, n, a, b, m, _, rfl, _⟩
  rfl
theorem law__law_other : ∀ W ds Q R, sp__law_other W ds Q R → g__law_other W R (endsD Q) (startD 7 ds) := by
  rintro W ds Q R ⟨d, l, n, a, b, m, rfl, rfl, h1, h2, hB, q⟩
  obtain ⟨ba, bb, bm, b1⟩ := hB
  simp [g__law_other, startD]
  refine dr (by decide) (by decide) fun w w0 w1 => ?_
  refine dr (by decide) (by decide) fun f f0 f1 => ?_
  have sf : Sz 5 (1 + f) := by
    show (1 + f).natAbs < 2 ^ 5
    omega
  have p1 : 1 ≤ 1 + f := by omega
  simp
  generalize 1 + f = fac at sf p1 ⊢
  have ma := sf.ok ba (by omega)
  have mb := sf.ok bb (by omega)
  have mm := sf.ok bm (by omega)
  have sa := sf.mul ba
  have sb := sf.mul bb
  have sm := sf.mul bm
  have pm : 1 ≤ fac * m := Int.le_trans (by decide) (Int.mul_le_mul p1 b1 (by decide) (by omega) : (1 : Int) * 1 ≤ fac * m)
  refine ite2 (fun h => ?_) (fun h => ?_)
  · exact ⟨ma, mb, mm, q _ _ _ ⟨sa.mono (by omega), sb.mono (by omega), sm.mono (by omega), pm⟩⟩
  · refine ite2 (fun h => ?_) (fun h => ?_)
    · refine ⟨d, l, n, rfl, rfl, h1, h2, fun x y hx hy => ?_⟩
      simp
      exact ⟨ma, mb, mm, q _ _ _ ⟨((sa.mono (by omega : _ ≤ 60 * n + 66)).add (hx.mono (by omega))).mono (by omega), ((sb.mono (by omega : _ ≤ 60 * n + 66)).add (hy.mono (by omega))).mono (by omega), sm.mono (by omega), pm⟩⟩
    · refine ite2 (fun h => ?_) (fun h => ?_)
      · refine dr (by decide) (by decide) fun r r0 r1 => ?_
        have s1 : Sz 20 (1 - 2 * r) := Sz.small (by omega) (by omega)
        have m2 : ND.MulOk 2 r := (Sz.small (by decide) (by decide)).ok (Sz.small (by omega) (by omega)) (by decide)
        have e : b + 1 - 2 * r = b + (1 - 2 * r) := by omega
        simp [m2]
        rw [e]
        exact q _ _ _ ⟨ba.mono (by omega), (bb.add (s1.mono (by omega))).mono (by omega), bm.mono (by omega), b1⟩
      · exact ⟨d, l, n, rfl, rfl, h1, h2, fun x y z hz => q _ _ _ (hz.up (by omega))⟩
theorem len__law_is_between : ∀ W ds Q R, sp__law_is_between W ds Q R → ds.length = 3 := by
  rintro W ds Q R ⟨a, b, m, lo, hi, rfl, _⟩
  rfl
theorem flr_big {a b m : Int} (h : Big 6000 a b m) : Sz 14000 (flr a b m) := by
  obtain ⟨h1, h2, h3, h4⟩ := h
  obtain ⟨r, er, r0, r1, _⟩ := root5 b
  have e5 : Sz 3 (5 : Int) := by decide
  have e2 : Sz 2 (2 : Int) := by decide
  have hs := (e5.mul h2).mul h2
  have hr : Sz 12010 r := by
    have h6 : (5 * b * b).natAbs < 2 ^ 12003 := hs
    have h7 : r ≤ r * r := by
      rcases Int.lt_or_le 0 r with g | g
      · have := Int.mul_le_mul (show 1 ≤ r by omega) (Int.le_refl r) r0 r0
        omega
      · have e0 : r = 0 := by omega
        rw [e0]
        decide
    have h8 : r.natAbs < 2 ^ 12003 := by omega
    exact (show Sz 12003 r from h8).mono (by decide)
  have hx : Sz 6003 (2 * a + b) := ((e2.mul h1).mono (by decide : 2 + 6000 ≤ 6002)).add (h2.mono (by decide))
  have key : ∀ {z : Int}, Sz 13900 z → Sz 14000 (z / (2 * m)) := fun {z} hz => by
    have g1 : z.natAbs < 2 ^ 13900 := hz
    have g2 := Int.natAbs_ediv_le_natAbs z (2 * m)
    exact (show Sz 13900 (z / (2 * m)) from Nat.lt_of_le_of_lt g2 g1).mono (by decide)
  unfold flr
  rw [er]
  split
  · exact key (((hx.mono (by decide : 6003 ≤ 12010)).add hr).mono (by decide))
  · exact key (((((hx.mono (by decide : 6003 ≤ 12010)).sub hr).mono (by decide : 12010 + 1 ≤ 12012)).sub ((show Sz 2 (1 : Int) by decide).mono (by decide))).mono (by decide))
theorem big_k {k : Int} (h : Sz 14000 k) : Big 50000 k 0 1 := ⟨h.mono (by decide), by show (0 : Int).natAbs < _; exact Nat.two_pow_pos _, (show Sz 2 (1 : Int) by decide).mono (by decide), by decide⟩
theorem cmp_k (a b m k : Int) : cmpd a b m k 0 1 = psg (a - k * m) b := by
  unfold cmpd
  simp
theorem law__law_is_between : ∀ W ds Q R, sp__law_is_between W ds Q R → g__law_is_between W R (endsD Q) (startD 4 ds) := by
  rintro W ds Q R ⟨a, b, m, lo, hi, rfl, hB, rfl, rfl, q⟩
  have hU := hB.up (by decide : 6000 ≤ 50000)
  obtain ⟨f1, f2⟩ := flr_ok (a := a) (b := b) hB.2.2.2
  obtain ⟨c1, c2⟩ := flr_ok (a := -a) (b := -b) hB.2.2.2
  have s1 := flr_big hB
  have s2 := flr_big hB.neg
  generalize flr a b m = k at f1 f2 s1
  generalize flr (-a) (-b) m = k' at c1 c2 s2
  have o1 : Sz 14000 (1 : Int) := (show Sz 2 (1 : Int) by decide).mono (by decide)
  have g1 : psg (a - -k' * m) b ≤ 0 := by
    have e : a - -k' * m = -(-a - k' * m) := by rw [Int.neg_mul]; omega
    have := psg_neg (-a - k' * m) (-b)
    rw [Int.neg_neg] at this
    rw [e, this]
    omega
  have g2 : 0 < psg (a - (-k' - 1) * m) b := by
    have e : a - (-k' - 1) * m = -(-a - (k' + 1) * m) := by
      rw [Int.sub_mul, Int.neg_mul, Int.add_mul]
      omega
    have := psg_neg (-a - (k' + 1) * m) (-b)
    rw [Int.neg_neg] at this
    rw [e, this]
    omega
  simp [g__law_is_between, startD, lcG, tyD, isiB, isTb]
  refine ⟨by rfl, a, b, m, k, 0, 1, rfl, hU, big_k s1, ?_⟩
  rw [cmp_k]
  simp
  rw [if_neg (by omega)]
  refine ⟨a, b, m, k + 1, 0, 1, rfl, hU, ⟨(s1.add o1).mono (by decide), (big_k s1).2⟩, ?_⟩
  rw [cmp_k]
  simp
  rw [if_neg (by omega)]
  refine ⟨a, b, m, -k', 0, 1, rfl, hU, big_k s2.neg, ?_⟩
  rw [cmp_k]
  simp
  rw [if_pos g1]
  refine ⟨a, b, m, -k' - 1, 0, 1, rfl, hU, ⟨(s2.neg.sub o1).mono (by decide), (big_k s1).2⟩, ?_⟩
  rw [cmp_k]
  simp [g2, q]
theorem psg_val (a b : Int) : psg a b = -1 ∨ psg a b = 0 ∨ psg a b = 1 := by
  unfold psg
  repeat' split
  all_goals simp
section
variable {W : WD} {Q : D → Prop} {R : Er → Prop}
theorem same_i {s t : Int} (hs : s = -1 ∨ s = 0 ∨ s = 1) (ht : t = -1 ∨ t = 0 ∨ t = 1) (q : Q (.bl true)) : sp__law_same W [.tup [.int s, .int t, .int s], .tup [.int s, .int t, .int s]] Q R := by
  rcases hs with h | h | h <;> rcases ht with g | g | g <;> subst h g <;> exact ⟨_, rfl, by decide +kernel, by decide +kernel, by decide +kernel, q⟩
theorem same_b (x y z : Bool) (q : Q (.bl true)) : sp__law_same W [.tup [.bl x, .bl y, .bl z], .tup [.bl x, .bl y, .bl z]] Q R := by
  cases x <;> cases y <;> cases z <;> exact ⟨_, rfl, by decide +kernel, by decide +kernel, by decide +kernel, q⟩
theorem same_b2 (x y : Bool) (q : Q (.bl true)) : sp__law_same W [.tup [.bl x, .bl y], .tup [.bl x, .bl y]] Q R := by
  cases x <;> cases y <;> exact ⟨_, rfl, by decide +kernel, by decide +kernel, by decide +kernel, q⟩
end
theorem cmp_anti (a b m c d n : Int) : cmpd c d n a b m = -cmpd a b m c d n := by
  unfold cmpd
  rw [← psg_neg]
  congr 1 <;> omega
theorem cmp_self (a b m : Int) : cmpd a b m a b m = 0 := by
  unfold cmpd
  rw [Int.sub_self, Int.sub_self]
  decide
theorem wh {a m : Int} {P P' : Prop} (h : 0 < m) (p : a % m = 0 → P) (p' : ¬ a % m = 0 → P') : 0 < m ∧ if a % m = 0 then 0 < m ∧ P else P' := by
  refine ⟨h, ?_⟩
  split
  · rename_i e
    exact ⟨h, p e⟩
  · rename_i e
    exact p' e
theorem wh_t {a b m : Int} (h : a % m = 0) : wholeB a b m = decide (b % m = 0) := by
  unfold wholeB
  rw [if_pos h]
theorem wh_f {a b m : Int} (h : ¬ a % m = 0) : wholeB a b m = decide (a % m = 0) := by
  unfold wholeB
  rw [if_neg h, decide_eq_false h]
theorem len__law_are_right : ∀ W ds Q R, sp__law_are_right W ds Q R → ds.length = 2 := by
  rintro W ds Q R ⟨a, b, m, c, d, n, rfl, _⟩
  rfl
theorem law__law_are_right : ∀ W ds Q R, sp__law_are_right W ds Q R → g__law_are_right W R (endsD Q) (startD 7 ds) := by
  rintro W ds Q R ⟨a, b, m, c, d, n, rfl, hB, hC, q⟩
  have up : ∀ {a b m : Int}, Big 6000 a b m → Sz 200000 a ∧ Sz 200000 b := fun h => ⟨h.1.mono (by decide), h.2.1.mono (by decide)⟩
  simp [g__law_are_right, startD]
  refine ⟨a, b, rfl, (up hB).1, (up hB).2, c, d, rfl, (up hC).1, (up hC).2, ?_⟩
  refine ⟨a, b, m, c, d, n, rfl, hB.up (by decide), hC.up (by decide), ?_⟩
  refine ⟨a, b, m, rfl, hB, c, d, n, rfl, hC, a, b, m, rfl, hB, same_i (psg_val _ _) (psg_val _ _) ?_⟩
  simp
  refine ⟨a, b, m, c, d, n, rfl, hB, hC, c, d, n, a, b, m, rfl, hC, hB, a, b, m, c, d, n, rfl, hB, hC, ?_⟩
  have e1 : decide (cmpd c d n a b m < 0) = decide (0 < cmpd a b m c d n) := by
    rw [cmp_anti a b m c d n]
    exact decide_eq_decide.mpr (by omega)
  rw [e1]
  simp
  refine same_b _ _ _ ?_
  simp
  refine ⟨a, b, m, c, d, n, rfl, hB, hC, c, d, n, a, b, m, rfl, hC, hB, a, b, m, a, b, m, rfl, hB, hB, ?_⟩
  have e2 : decide (cmpd c d n a b m = 0) = decide (cmpd a b m c d n = 0) := by
    rw [cmp_anti a b m c d n]
    exact decide_eq_decide.mpr (by omega)
  rw [e2, cmp_self]
  simp
  refine same_b _ _ _ ?_
  have hm : 0 < m := by have := hB.2.2.2; omega
  have hn : 0 < n := by have := hC.2.2.2; omega
  simp [forG]
  refine wh hm (fun h => ?_) (fun h => ?_)
  all_goals
    refine ⟨a, b, m, rfl, hB.2.2.2, a, b, m, rfl, hB.2.2.2, ?_⟩
    first | rw [wh_t h] | rw [wh_f h]
    refine same_b2 _ _ ?_
    simp
    refine ⟨a, b, m, rfl, hB, a, b, m, rfl, hB, a, b, m, _, _, rfl, hB, rfl, rfl, ?_⟩
    simp
    refine wh hn (fun h => ?_) (fun h => ?_)
    all_goals
      refine ⟨c, d, n, rfl, hC.2.2.2, c, d, n, rfl, hC.2.2.2, ?_⟩
      first | rw [wh_t h] | rw [wh_f h]
      refine same_b2 _ _ ?_
      simp
      refine ⟨c, d, n, rfl, hC, c, d, n, rfl, hC, c, d, n, _, _, rfl, hC, rfl, rfl, ?_⟩
      simp
      exact ⟨a, b, m, rfl, hB, a, b, m, rfl, hB, a, b, m, _, _, rfl, hB, rfl, rfl, q⟩
theorem law_loop (d l : Addr) (v : V) (E : Ed) (hE : ∀ x y, E.nx [.d (.opq v), .d (.opq (.ref d)), x, y]) : ∀ (ds : List D) (x y : SV),
    forG (ggName 2) (gSeq (gSet 3 (gCall sp__law_golden (some (d, l)) (fun _ => False) (gCons (gVar 1) (gCons (gC (.int 10)) gNil))))
      (gIfS (gNotT (gTru (gCall sp__law_are_right (some (d, l)) (fun _ => False) (gCons (gVar 3) (gCons (gCall sp__law_other (some (d, l)) (fun _ => False) (gCons (gVar 1) (gCons (gVar 3) (gCons (gC (.int 10)) gNil)))) gNil))))) (gRet (gC (.bl false))) gSkip)) ds E [.d (.opq v), .d (.opq (.ref d)), x, y]
  | [], x, y => hE x y
  | z :: ds, x, y => by
    simp [forG]
    refine ⟨d, l, 10, rfl, rfl, by decide, by decide, fun a b m hB => ?_⟩
    simp
    refine ⟨d, l, 10, a, b, m, rfl, rfl, by decide, by decide, hB, fun a' b' m' hC => ?_⟩
    refine ⟨a, b, m, a', b', m', rfl, hB.up (by decide), hC.up (by decide), ?_⟩
    simp
    exact law_loop d l v E hE ds _ _
theorem law_law : ∀ (d l : Addr) (v : V), g_law (some (d, l)) (fun _ => False) (endsD fun r => r = .bl true) (.d (.opq v) :: .d (.opq (.ref d)) :: List.replicate 2 .no) := by
  intro d l v
  simp [g_law]
  refine law_loop d l v _ (fun x y => ?_) _ _ _
  simp
  refine dr (by decide) (by decide) fun r r0 r1 => ?_
  simp
  intro hr
  refine ⟨d, l, 80, rfl, rfl, by decide, by decide, fun a b m hB => ?_⟩
  simp
  refine ⟨d, l, 80, a, b, m, rfl, rfl, by decide, by decide, hB, fun a' b' m' hC => ?_⟩
  exact ⟨a, b, m, a', b', m', rfl, hB.up (by decide), hC.up (by decide), rfl⟩
section
variable {P : Program} {w : World} {K : PySem.W.Frag} {mg : Str → Option Value} {base : Heap}
theorem ok__law_draw {f : Addr} {fd : FuncData} (bt : Bt mg) (hm : mg "_law_draw" = some (.ref f)) (F : Fun K "_law_draw" "_law_draw" (top 24) f fd) : OkD P w K mg base "_law_draw" (top 24) 1 ["_law_deck_here", "_law_many"] spDraw := by
  refine ⟨f, fd, hm, F, okDraw (c := 62989) F sc__law_draw rfl rfl (small64 (by decide) (by decide)) fun cdv A outer s H E hr => ?_⟩
  have hu := hu_of hr
  have h64 := hr.units
  have nd := sc__law_draw.nd
  have it : ∀ {t : Str}, t = t := rfl
  exact pss_cons (ps_dput hu (pv 0) pe_str (pe_op op_add (pe_dget hu (pv 0) pe_str nosl) pe_int) rfl)
    (pss_cons (ps_set (i := 2) nd rfl (Or.inl rfl) (pe_op op_add (pe_dget hu (pv 0) pe_str nosl) (pe_op op_mul pe_int (pe_dget hu (pv 0) pe_str nosl))))
    (pss_cons (ps_if (pt_cmpR (op_neD h64) (pe_dget hu (pv 0) pe_str nosl) (pe_lst pa_nil) (nomark _))
      (pss_cons (ps_set (i := 3) nd rfl (Or.inl rfl) (pe_bm0 PySem.F.plainAttrs_list PySem.F.slot_list_pop PySem.F.type_list_pop mt_pop (pe_dget hu (pv 0) pe_str nosl)))
      (pss_cons (ps_if (pt_cmpR op_ge (pv 3) (pe_op op_pow pe_int pe_int) (nomark _))
        (pss_cons (ps_expr (pe_bm PySem.F.plainAttrs_list PySem.F.slot_list_append PySem.F.type_list_append mt_append (pe_dget hu (pv 0) pe_str nosl) (pa_cons (pe_op op_fdivW (pv 3) (pe_callB (call_max2 rfl) rfl bt.b_max nbMax (pa_cons pe_int (pa_cons (pv 1) pa_nil)))) pa_nil)))
        (pss_one (ps_ret (pe_op op_mod (pe_callTy call_int1 rfl bt.b_int nbInt (pa_cons (pv 3) pa_nil)) (pv 1)))))
        pss_nil)
      (pss_one (ps_set (i := 2) nd rfl (Or.inl rfl) (pe_op op_add (pv 2) (pe_op op_mod (pe_callTy call_int1 rfl bt.b_int nbInt (pa_cons (pv 3) pa_nil)) pe_int))))))
      pss_nil)
    (pss_cons (ps_set (i := 2) nd rfl (Or.inl rfl) (pe_op op_mod (pe_callTy call_int1 rfl bt.b_int nbInt (pa_cons (pe_op op_add (pe_op op_mul (pv 2) pe_int) pe_int) pa_nil)) pe_int))
    (pss_cons (ps_set (i := 2) nd rfl (Or.inl rfl) (pe_op op_mod (pe_callTy call_int1 rfl bt.b_int nbInt (pa_cons (pe_op op_add (pe_op op_add (pe_op op_mul (pv 2) (pv 2)) (pe_op op_mul pe_int (pe_dget hu (pv 0) pe_str nosl))) pe_int) pa_nil)) pe_int))
    (pss_cons (ps_set (i := 2) nd rfl (Or.inl rfl) (pe_op op_mod (pe_callTy call_int1 rfl bt.b_int nbInt (pa_cons (pe_op op_mul (pv 2) pe_int) pa_nil)) pe_int))
    (pss_one (ps_ret (pe_op op_mod (pe_callTy call_int1 rfl bt.b_int nbInt (pa_cons (pe_op op_fdivW (pv 2) pe_int) pa_nil)) (pv 1)))))))))
theorem ok__law_deck {f : Addr} {fd : FuncData} (bt : Bt mg) (F : Fun K "_law_deck" "_law_deck" (top 23) f fd) : FnOk P w K mg base (L2.CX P w) 1 f fd ["_law_script"] (spDeck K) := by
  refine okDeck (c := 10879007) F sc__law_deck rfl rfl (by decide) fun cdv A outer s H E hr => ?_
  have nd := sc__law_deck.nd
  exact pss_cons (ps_set (i := 1) nd rfl (Or.inl rfl) pe_int)
    (pss_cons (ps_for (passes_of rfl) rfl (pi_list (pe_slice sl_list (pv 0) po_none (po_some pe_int))) (pg_name (i := 2) nd rfl (Or.inl rfl))
      (pss_one (ps_set (i := 1) nd rfl (Or.inl rfl) (pe_op op_mod (pe_callTy call_int1 rfl bt.b_int nbInt (pa_cons (pe_op op_add (pe_op op_add (pe_op op_mul (pv 1) pe_int) (pe_op op_mod (pe_callTy call_int1 rfl bt.b_int nbInt (pa_cons (pv 2) pa_nil)) pe_int)) pe_int) pa_nil)) pe_int))))
    (pss_one (ps_ret (pe_disp (pps_cons pe_str (pe_revL (pe_callTy call_list_of rfl bt.b_list nbList (pa_cons (pe_slice sl_list (pv 0) po_none (po_some pe_int)) pa_nil))) (pps_cons pe_str (pv 1) (pps_cons pe_str pe_int pps_nil))) rfl rfl (by simp) (by decide)))))
theorem ok_is_integer {f : Addr} {fd : FuncData} (bt : Bt mg) (hm : mg "is_integer" = some (.ref f)) (F : Fun K "is_integer" "is_integer" (top 5) f fd)  : OkD P w K mg base "is_integer" (top 5) 1 ["thing"] sp_is_integer := by
  refine ⟨f, fd, hm, F, okD (g := g_is_integer) F sc_is_integer len_is_integer (fun cdv A outer s H E W F R hr hE hp hx => ?_) law_is_integer⟩
  have nd := sc_is_integer.nd
  have hu65 := hu65_of hr
  exact (sds_one (sd_ret (ed_and (ed_callB c_isi (by rfl) bt.b_isinstance nbIsi (abd_cons (ed_var 0 (pv 0)).toB (abd_cons (ed_ty (by rfl) bt.b_int nbInt).toB abd_nil))) (ed_one (ed_not (ed_callB c_isi (by rfl) bt.b_isinstance nbIsi (abd_cons (ed_var 0 (pv 0)).toB (abd_cons (ed_ty (by rfl) bt.b_bool nbBool).toB abd_nil))).toB)))))
theorem ok_pair_sign {f : Addr} {fd : FuncData} (bt : Bt mg) (hm : mg "pair_sign" = some (.ref f)) (F : Fun K "pair_sign" "pair_sign" (top 7) f fd)  : OkD P w K mg base "pair_sign" (top 7) 1 ["a", "b"] sp_pair_sign := by
  refine ⟨f, fd, hm, F, okD (g := g_pair_sign) F sc_pair_sign len_pair_sign (fun cdv A outer s H E W F R hr hE hp hx => ?_) law_pair_sign⟩
  have nd := sc_pair_sign.nd
  have hu65 := hu65_of hr
  exact (sds_cons (sd_set (i := 2) nd rfl (Or.inl rfl) (ed_bin o_add (ed_bin o_mul ed_int.toB (ed_var 0 (pv 0)).toB).toB (ed_var 1 (pv 1)).toB))
      (sds_cons (sd_if (wd_and (td_cmp o_ge (ed_var 2 (pv 2)).toB ed_int.toB (nomark _)) (wd_and1 (td_cmp o_ge (ed_var 1 (pv 1)).toB ed_int.toB (nomark _)))).t (sds_one (sd_ret (ed_if (wd_or (td_cmp o_gt (ed_var 2 (pv 2)).toB ed_int.toB (nomark _)) (wd_or1 (td_cmp o_gt (ed_var 1 (pv 1)).toB ed_int.toB (nomark _)))).t ed_int ed_int))) sds_nil)
      (sds_cons (sd_if (wd_and (td_cmp o_le (ed_var 2 (pv 2)).toB ed_int.toB (nomark _)) (wd_and1 (td_cmp o_le (ed_var 1 (pv 1)).toB ed_int.toB (nomark _)))).t (sds_one (sd_ret (ed_un o_neg ed_int.toB))) sds_nil)
      (sds_cons (sd_set (i := 3) nd rfl (Or.inl rfl) (ed_cmp o_gt (ed_bin o_mul (ed_var 2 (pv 2)).toB (ed_var 2 (pv 2)).toB).toB (ed_bin o_mul (ed_bin o_mul ed_int.toB (ed_var 1 (pv 1)).toB).toB (ed_var 1 (pv 1)).toB).toB (nomark _)))
      (sds_cons (sd_if (td_cmp o_gt (ed_var 2 (pv 2)).toB ed_int.toB (nomark _)) (sds_one (sd_ret (ed_if (td_val (ed_var 3 (pv 3)).toB) ed_int (ed_un o_neg ed_int.toB)))) sds_nil)
      (sds_one (sd_ret (ed_if (td_val (ed_var 3 (pv 3)).toB) (ed_un o_neg ed_int.toB) ed_int))))))))
theorem ok_negative {f : Addr} {fd : FuncData} (bt : Bt mg) (hm : mg "negative" = some (.ref f)) (F : Fun K "negative" "negative" (top 10) f fd)  : OkD P w K mg base "negative" (top 10) 1 ["one"] sp_negative := by
  refine ⟨f, fd, hm, F, okD (g := g_negative) F sc_negative len_negative (fun cdv A outer s H E W F R hr hE hp hx => ?_) law_negative⟩
  have nd := sc_negative.nd
  have hu65 := hu65_of hr
  exact (sds_one (sd_ret (ed_tup (ad_cons (ed_un o_neg (ed_ix (ed_var 0 (pv 0)).toB ed_int.toB).toB) (ad_cons (ed_un o_neg (ed_ix (ed_var 0 (pv 0)).toB ed_int.toB).toB) (ad_cons (ed_ix (ed_var 0 (pv 0)).toB ed_int.toB) ad_nil))))))
theorem ok_is_whole_number {f : Addr} {fd : FuncData} (bt : Bt mg) (hm : mg "is_whole_number" = some (.ref f)) (F : Fun K "is_whole_number" "is_whole_number" (top 11) f fd)  : OkD P w K mg base "is_whole_number" (top 11) 1 ["one"] sp_is_whole_number := by
  refine ⟨f, fd, hm, F, okD (g := g_is_whole_number) F sc_is_whole_number len_is_whole_number (fun cdv A outer s H E W F R hr hE hp hx => ?_) law_is_whole_number⟩
  have nd := sc_is_whole_number.nd
  have hu65 := hu65_of hr
  exact (sds_one (sd_ret (ed_and (ed_cmp (o_eq hr.units) (ed_bin o_mod (ed_ix (ed_var 0 (pv 0)).toB ed_int.toB).toB (ed_ix (ed_var 0 (pv 0)).toB ed_int.toB).toB).toB ed_int.toB (nomark _)) (ed_one (ed_cmp (o_eq hr.units) (ed_bin o_mod (ed_ix (ed_var 0 (pv 0)).toB ed_int.toB).toB (ed_ix (ed_var 0 (pv 0)).toB ed_int.toB).toB).toB ed_int.toB (nomark _))))))
theorem ok_floor_integer {f : Addr} {fd : FuncData} (bt : Bt mg) (hm : mg "floor_integer" = some (.ref f)) (F : Fun K "floor_integer" "floor_integer" (top 12) f fd)  : OkD P w K mg base "floor_integer" (top 12) 1 ["one"] sp_floor_integer := by
  refine ⟨f, fd, hm, F, okD (g := g_floor_integer) F sc_floor_integer len_floor_integer (fun cdv A outer s H E W F R hr hE hp hx => ?_) law_floor_integer⟩
  have nd := sc_floor_integer.nd
  have hu65 := hu65_of hr
  exact (sds_cons (sd_par3 (i := 1) (j := 2) (l := 3) rfl nd rfl rfl rfl (by decide) (by decide) (by decide) rfl rfl rfl (ad_cons (ed_bin o_add (ed_bin o_mul ed_int.toB (ed_ix (ed_var 0 (pv 0)).toB ed_int.toB).toB).toB (ed_ix (ed_var 0 (pv 0)).toB ed_int.toB).toB) (ad_cons (ed_ix (ed_var 0 (pv 0)).toB ed_int.toB) (ad_cons (ed_bin o_mul ed_int.toB (ed_ix (ed_var 0 (pv 0)).toB ed_int.toB).toB) ad_nil))) (by rfl))
      (sds_cons (sd_set (i := 4) nd rfl (Or.inl rfl) (ed_callFun c_isqrt (by rfl) bt.f_isqrt (abd_cons (ed_bin o_mul (ed_bin o_mul ed_int.toB (ed_var 2 (pv 2)).toB).toB (ed_var 2 (pv 2)).toB).toB abd_nil)))
      (sds_cons (sd_if (td_cmp o_ge (ed_var 2 (pv 2)).toB ed_int.toB (nomark _)) (sds_one (sd_ret (ed_bin o_fdiv (ed_bin o_add (ed_var 1 (pv 1)).toB (ed_var 4 (pv 4)).toB).toB (ed_var 3 (pv 3)).toB))) sds_nil)
      (sds_one (sd_ret (ed_bin o_fdiv (ed_bin o_sub (ed_bin o_sub (ed_var 1 (pv 1)).toB (ed_var 4 (pv 4)).toB).toB ed_int.toB).toB (ed_var 3 (pv 3)).toB))))))
theorem ok__law_sign {f : Addr} {fd : FuncData} (bt : Bt mg) (hm : mg "_law_sign" = some (.ref f)) (F : Fun K "_law_sign" "_law_sign" (top 27) f fd)  : OkD P w K mg base "_law_sign" (top 27) 1 ["_law_a", "_law_b"] sp__law_sign := by
  refine ⟨f, fd, hm, F, okD (g := g__law_sign) F sc__law_sign len__law_sign (fun cdv A outer s H E W F R hr hE hp hx => ?_) law__law_sign⟩
  have nd := sc__law_sign.nd
  have hu65 := hu65_of hr
  exact (sds_cons (sd_set (i := 2) nd rfl (Or.inl rfl) (ed_bin o_add (ed_bin o_mul ed_int.toB (ed_var 0 (pv 0)).toB).toB (ed_var 1 (pv 1)).toB))
      (sds_cons (sd_if (wd_and (td_cmp o_ge (ed_var 2 (pv 2)).toB ed_int.toB (nomark _)) (wd_and1 (td_cmp o_ge (ed_var 1 (pv 1)).toB ed_int.toB (nomark _)))).t (sds_one (sd_ret (ed_callTy c_int (by rfl) bt.b_int nbInt (abd_cons (ed_or (ed_cmp o_gt (ed_var 2 (pv 2)).toB ed_int.toB (nomark _)) (ed_one (ed_cmp o_gt (ed_var 1 (pv 1)).toB ed_int.toB (nomark _)))).toB abd_nil)))) sds_nil)
      (sds_cons (sd_if (wd_and (td_cmp o_le (ed_var 2 (pv 2)).toB ed_int.toB (nomark _)) (wd_and1 (td_cmp o_le (ed_var 1 (pv 1)).toB ed_int.toB (nomark _)))).t (sds_one (sd_ret (ed_un o_neg ed_int.toB))) sds_nil)
      (sds_cons (sd_if (td_cmp o_gt (ed_var 2 (pv 2)).toB ed_int.toB (nomark _)) (sds_one (sd_ret (ed_if (td_cmp o_gt (ed_bin o_mul (ed_var 2 (pv 2)).toB (ed_var 2 (pv 2)).toB).toB (ed_bin o_mul (ed_bin o_mul ed_int.toB (ed_var 1 (pv 1)).toB).toB (ed_var 1 (pv 1)).toB).toB (nomark _)) ed_int (ed_un o_neg ed_int.toB)))) sds_nil)
      (sds_one (sd_ret (ed_if (td_cmp o_gt (ed_bin o_mul (ed_bin o_mul ed_int.toB (ed_var 1 (pv 1)).toB).toB (ed_var 1 (pv 1)).toB).toB (ed_bin o_mul (ed_var 2 (pv 2)).toB (ed_var 2 (pv 2)).toB).toB (nomark _)) ed_int (ed_un o_neg ed_int.toB))))))))
theorem ok__law_same {f : Addr} {fd : FuncData} (bt : Bt mg) (hm : mg "_law_same" = some (.ref f)) (F : Fun K "_law_same" "_law_same" (top 28) f fd)  : OkG P w K mg base "_law_same" (top 28) 1 ["_law_told", "_law_due"] sp__law_same := by
  refine ⟨f, fd, hm, F, okG (g := g__law_same) F sc__law_same len__law_same (fun cdv A outer s H E W F R hG hr hE hp hx => ?_) law__law_same⟩
  have nd := sc__law_same.nd
  have hu65 := hu65_of hr
  exact (sds_one (sd_ret (ed_cmp (o_eq hr.units) (ed_callB (c_repr hG hu65) (by rfl) bt.b_repr nbRepr (abd_cons (ed_var 0 (pv 0)).toB abd_nil)).toB (ed_callB (c_repr hG hu65) (by rfl) bt.b_repr nbRepr (abd_cons (ed_var 1 (pv 1)).toB abd_nil)).toB (nomark _))))
theorem ok_is_number {f : Addr} {fd : FuncData} (bt : Bt mg) (hm : mg "is_number" = some (.ref f)) (F : Fun K "is_number" "is_number" (top 6) f fd) (O_is_integer : OkD P w K mg base "is_integer" (top 5) 1 ["thing"] sp_is_integer) : OkD P w K mg base "is_number" (top 6) 2 ["thing"] sp_is_number := by
  refine ⟨f, fd, hm, F, okD (g := g_is_number) F sc_is_number len_is_number (fun cdv A outer s H E W F R hr hE hp hx => ?_) law_is_number⟩
  have nd := sc_is_number.nd
  have hu65 := hu65_of hr
  exact (sds_cons (sd_if (wd_or (td_not (td_val (ed_callB c_isi (by rfl) bt.b_isinstance nbIsi (abd_cons (ed_var 0 (pv 0)).toB (abd_cons (ed_ty (by rfl) bt.b_tuple nbTuple).toB abd_nil))).toB)) (wd_or1 (td_cmp (o_ne hr.units) (ed_callB c_len (by rfl) bt.b_len nbLen (abd_cons (ed_var 0 (pv 0)).toB abd_nil)).toB ed_int.toB (nomark _)))).t (sds_one (sd_ret ed_bl)) sds_nil)
      (sds_one (sd_ret (ed_and (ed_o (k := 1) O_is_integer bp_is_integer (hr.mono (by decide)) hx hE (ad_cons (ed_ix (ed_var 0 (pv 0)).toB ed_int.toB) ad_nil)) (ed_and (ed_o (k := 1) O_is_integer bp_is_integer (hr.mono (by decide)) hx hE (ad_cons (ed_ix (ed_var 0 (pv 0)).toB ed_int.toB) ad_nil)) (ed_and (ed_o (k := 1) O_is_integer bp_is_integer (hr.mono (by decide)) hx hE (ad_cons (ed_ix (ed_var 0 (pv 0)).toB ed_int.toB) ad_nil)) (ed_one (ed_cmp o_ge (ed_ix (ed_var 0 (pv 0)).toB ed_int.toB).toB ed_int.toB (nomark _)))))))))
theorem ok_sign_of {f : Addr} {fd : FuncData} (bt : Bt mg) (hm : mg "sign_of" = some (.ref f)) (F : Fun K "sign_of" "sign_of" (top 8) f fd) (O_pair_sign : OkD P w K mg base "pair_sign" (top 7) 1 ["a", "b"] sp_pair_sign) : OkD P w K mg base "sign_of" (top 8) 2 ["one"] sp_sign_of := by
  refine ⟨f, fd, hm, F, okD (g := g_sign_of) F sc_sign_of len_sign_of (fun cdv A outer s H E W F R hr hE hp hx => ?_) law_sign_of⟩
  have nd := sc_sign_of.nd
  have hu65 := hu65_of hr
  exact (sds_one (sd_ret (ed_o (k := 1) O_pair_sign bp_pair_sign (hr.mono (by decide)) hx hE (ad_cons (ed_ix (ed_var 0 (pv 0)).toB ed_int.toB) (ad_cons (ed_ix (ed_var 0 (pv 0)).toB ed_int.toB) ad_nil)))))
theorem ok_compared {f : Addr} {fd : FuncData} (bt : Bt mg) (hm : mg "compared" = some (.ref f)) (F : Fun K "compared" "compared" (top 9) f fd) (O_pair_sign : OkD P w K mg base "pair_sign" (top 7) 1 ["a", "b"] sp_pair_sign) : OkD P w K mg base "compared" (top 9) 2 ["one", "other"] sp_compared := by
  refine ⟨f, fd, hm, F, okD (g := g_compared) F sc_compared len_compared (fun cdv A outer s H E W F R hr hE hp hx => ?_) law_compared⟩
  have nd := sc_compared.nd
  have hu65 := hu65_of hr
  exact (sds_one (sd_ret (ed_o (k := 1) O_pair_sign bp_pair_sign (hr.mono (by decide)) hx hE (ad_cons (ed_bin o_sub (ed_bin o_mul (ed_ix (ed_var 0 (pv 0)).toB ed_int.toB).toB (ed_ix (ed_var 1 (pv 1)).toB ed_int.toB).toB).toB (ed_bin o_mul (ed_ix (ed_var 1 (pv 1)).toB ed_int.toB).toB (ed_ix (ed_var 0 (pv 0)).toB ed_int.toB).toB).toB) (ad_cons (ed_bin o_sub (ed_bin o_mul (ed_ix (ed_var 0 (pv 0)).toB ed_int.toB).toB (ed_ix (ed_var 1 (pv 1)).toB ed_int.toB).toB).toB (ed_bin o_mul (ed_ix (ed_var 1 (pv 1)).toB ed_int.toB).toB (ed_ix (ed_var 0 (pv 0)).toB ed_int.toB).toB).toB) ad_nil)))))
theorem ok_ceiling_integer {f : Addr} {fd : FuncData} (bt : Bt mg) (hm : mg "ceiling_integer" = some (.ref f)) (F : Fun K "ceiling_integer" "ceiling_integer" (top 13) f fd) (O_floor_integer : OkD P w K mg base "floor_integer" (top 12) 1 ["one"] sp_floor_integer) (O_negative : OkD P w K mg base "negative" (top 10) 1 ["one"] sp_negative) : OkD P w K mg base "ceiling_integer" (top 13) 2 ["one"] sp_ceiling_integer := by
  refine ⟨f, fd, hm, F, okD (g := g_ceiling_integer) F sc_ceiling_integer len_ceiling_integer (fun cdv A outer s H E W F R hr hE hp hx => ?_) law_ceiling_integer⟩
  have nd := sc_ceiling_integer.nd
  have hu65 := hu65_of hr
  exact (sds_one (sd_ret (ed_un o_neg (ed_o (k := 1) O_floor_integer bp_floor_integer (hr.mono (by decide)) hx hE (ad_cons (ed_o (k := 1) O_negative bp_negative (hr.mono (by decide)) hx hE (ad_cons (ed_var 0 (pv 0)) ad_nil)) ad_nil)).toB)))
theorem ok__law_pick {f : Addr} {fd : FuncData} (bt : Bt mg) (hm : mg "_law_pick" = some (.ref f)) (F : Fun K "_law_pick" "_law_pick" (top 25) f fd) (O__law_draw : OkD P w K mg base "_law_draw" (top 24) 1 ["_law_deck_here", "_law_many"] spDraw) : OkD P w K mg base "_law_pick" (top 25) 2 ["_law_deck_here", "_law_some"] sp__law_pick := by
  refine ⟨f, fd, hm, F, okD (g := g__law_pick) F sc__law_pick len__law_pick (fun cdv A outer s H E W F R hr hE hp hx => ?_) law__law_pick⟩
  have nd := sc__law_pick.nd
  have hu65 := hu65_of hr
  exact (sds_one (sd_ret (ed_ix (ed_var 1 (pv 1)).toB (ed_o (k := 1) O__law_draw bp__law_draw (hr.mono (by decide)) hx hE (ad_cons (ed_var 0 (pv 0)) (ad_cons (ed_callB c_len (by rfl) bt.b_len nbLen (abd_cons (ed_var 1 (pv 1)).toB abd_nil)) ad_nil))).toB)))
theorem ok__law_integer {f : Addr} {fd : FuncData} (bt : Bt mg) (hm : mg "_law_integer" = some (.ref f)) (F : Fun K "_law_integer" "_law_integer" (top 26) f fd) (O__law_draw : OkD P w K mg base "_law_draw" (top 24) 1 ["_law_deck_here", "_law_many"] spDraw) : OkD P w K mg base "_law_integer" (top 26) 2 ["_law_deck_here", "_law_pieces"] sp__law_integer := by
  refine ⟨f, fd, hm, F, okD (g := g__law_integer) F sc__law_integer len__law_integer (fun cdv A outer s H E W F R hr hE hp hx => ?_) law__law_integer⟩
  have nd := sc__law_integer.nd
  have hu65 := hu65_of hr
  exact (sds_cons (sd_par3 (i := 2) (j := 3) (l := 4) rfl nd rfl rfl rfl (by decide) (by decide) (by decide) rfl rfl rfl (ad_cons (ed_o (k := 1) O__law_draw bp__law_draw (hr.mono (by decide)) hx hE (ad_cons (ed_var 0 (pv 0)) (ad_cons ed_int ad_nil))) (ad_cons (ed_bin o_sub ed_int.toB (ed_bin o_mul ed_int.toB (ed_o (k := 1) O__law_draw bp__law_draw (hr.mono (by decide)) hx hE (ad_cons (ed_var 0 (pv 0)) (ad_cons ed_int ad_nil))).toB).toB) (ad_cons ed_int ad_nil))) (by rfl))
      (sds_cons (sd_if (td_cmp o_lt (ed_var 2 (pv 2)).toB ed_int.toB (nomark _)) (sds_one (sd_ret (ed_bin o_mul (ed_var 3 (pv 3)).toB (ed_o (k := 1) O__law_draw bp__law_draw (hr.mono (by decide)) hx hE (ad_cons (ed_var 0 (pv 0)) (ad_cons (ed_ix (ed_tup (ad_cons ed_int (ad_cons ed_int (ad_cons ed_int (ad_cons ed_int (ad_cons ed_int (ad_cons ed_int ad_nil))))))).toB (ed_var 2 (pv 2)).toB) ad_nil))).toB))) sds_nil)
      (sds_cons (sd_if (td_cmp (o_eq hr.units) (ed_var 2 (pv 2)).toB ed_int.toB (nomark _)) (sds_one (sd_ret (ed_bin o_mul (ed_var 3 (pv 3)).toB (ed_bin o_sub (ed_callTy c_int (by rfl) bt.b_int nbInt (abd_cons (ed_bin o_repS ed_str.toB (ed_bin o_mul ed_int.toB (ed_var 1 (pv 1)).toB).toB).toB abd_nil)).toB (ed_o (k := 1) O__law_draw bp__law_draw (hr.mono (by decide)) hx hE (ad_cons (ed_var 0 (pv 0)) (ad_cons ed_int ad_nil))).toB).toB))) sds_nil)
      (sds_cons (sd_for hp rfl (pid_rng1 (by rfl) bt.b_range (ad_cons (ed_bin o_add ed_int.toB (ed_o (k := 1) O__law_draw bp__law_draw (hr.mono (by decide)) hx hE (ad_cons (ed_var 0 (pv 0)) (ad_cons (ed_var 1 (pv 1)) ad_nil))).toB) ad_nil)) (gd_name (pg_name (i := 5) nd rfl (Or.inl rfl))) (sds_one (sd_set (i := 4) nd rfl (Or.inl rfl) (ed_bin o_add (ed_bin o_mul (ed_var 4 (pv 4)).toB (ed_bin o_pow ed_int.toB ed_int.toB).toB).toB (ed_o (k := 1) O__law_draw bp__law_draw (hr.mono (by decide)) hx hE (ad_cons (ed_var 0 (pv 0)) (ad_cons (ed_bin o_pow ed_int.toB ed_int.toB) ad_nil))).toB))))
      (sds_one (sd_ret (ed_bin o_mul (ed_var 3 (pv 3)).toB (ed_var 4 (pv 4)).toB)))))))
theorem ok__law_thin {f : Addr} {fd : FuncData} (bt : Bt mg) (hm : mg "_law_thin" = some (.ref f)) (F : Fun K "_law_thin" "_law_thin" (top 29) f fd) (O__law_draw : OkD P w K mg base "_law_draw" (top 24) 1 ["_law_deck_here", "_law_many"] spDraw) : OkD P w K mg base "_law_thin" (top 29) 2 ["_law_deck_here", "_law_pieces"] sp__law_thin := by
  refine ⟨f, fd, hm, F, okD (g := g__law_thin) F sc__law_thin len__law_thin (fun cdv A outer s H E W F R hr hE hp hx => ?_) law__law_thin⟩
  have nd := sc__law_thin.nd
  have hu65 := hu65_of hr
  exact (sds_cons (sd_set (i := 2) nd rfl (Or.inl rfl) (ed_o (k := 1) O__law_draw bp__law_draw (hr.mono (by decide)) hx hE (ad_cons (ed_var 0 (pv 0)) (ad_cons (ed_bin o_mul ed_int.toB (ed_var 1 (pv 1)).toB) ad_nil))))
      (sds_cons (sd_setT (is := [3, 4]) rfl (na_cons (pg_name (i := 3) nd rfl (Or.inl rfl)) (na_cons (pg_name (i := 4) nd rfl (Or.inl rfl)) na_nil)) (ed_tup (ad_cons ed_int (ad_cons ed_int ad_nil))))
      (sds_cons (sd_for hp rfl (pid_rng1 (by rfl) bt.b_range (ad_cons (ed_var 2 (pv 2)) ad_nil)) (gd_name (pg_name (i := 5) nd rfl (Or.inl rfl))) (sds_one (sd_par2 (i := 3) (j := 4) rfl nd rfl rfl (by decide) rfl rfl (ad_cons (ed_bin o_sub (ed_var 3 (pv 3)).toB (ed_var 4 (pv 4)).toB) (ad_cons (ed_un o_neg (ed_var 3 (pv 3)).toB) ad_nil)) (by rfl))))
      (sds_one (sd_ret (ed_if (td_cmp (o_eq hr.units) (ed_o (k := 1) O__law_draw bp__law_draw (hr.mono (by decide)) hx hE (ad_cons (ed_var 0 (pv 0)) (ad_cons ed_int ad_nil))).toB ed_int.toB (nomark _)) (ed_tup (ad_cons (ed_var 3 (pv 3)) (ad_cons (ed_var 4 (pv 4)) ad_nil))) (ed_tup (ad_cons (ed_un o_neg (ed_var 3 (pv 3)).toB) (ad_cons (ed_un o_neg (ed_var 4 (pv 4)).toB) ad_nil)))))))))
theorem ok__law_apart {f : Addr} {fd : FuncData} (bt : Bt mg) (hm : mg "_law_apart" = some (.ref f)) (F : Fun K "_law_apart" "_law_apart" (top 32) f fd) (O__law_sign : OkD P w K mg base "_law_sign" (top 27) 1 ["_law_a", "_law_b"] sp__law_sign) : OkD P w K mg base "_law_apart" (top 32) 2 ["_law_p", "_law_q"] sp__law_apart := by
  refine ⟨f, fd, hm, F, okD (g := g__law_apart) F sc__law_apart len__law_apart (fun cdv A outer s H E W F R hr hE hp hx => ?_) law__law_apart⟩
  have nd := sc__law_apart.nd
  have hu65 := hu65_of hr
  exact (sds_one (sd_ret (ed_o (k := 1) O__law_sign bp__law_sign (hr.mono (by decide)) hx hE (ad_cons (ed_bin o_sub (ed_bin o_mul (ed_ix (ed_var 0 (pv 0)).toB ed_int.toB).toB (ed_ix (ed_var 1 (pv 1)).toB ed_int.toB).toB).toB (ed_bin o_mul (ed_ix (ed_var 1 (pv 1)).toB ed_int.toB).toB (ed_ix (ed_var 0 (pv 0)).toB ed_int.toB).toB).toB) (ad_cons (ed_bin o_sub (ed_bin o_mul (ed_ix (ed_var 0 (pv 0)).toB ed_int.toB).toB (ed_ix (ed_var 1 (pv 1)).toB ed_int.toB).toB).toB (ed_bin o_mul (ed_ix (ed_var 1 (pv 1)).toB ed_int.toB).toB (ed_ix (ed_var 0 (pv 0)).toB ed_int.toB).toB).toB) ad_nil)))))
theorem ok_need_numbers {f : Addr} {fd : FuncData} (bt : Bt mg) (hm : mg "need_numbers" = some (.ref f)) (F : Fun K "need_numbers" "need_numbers" (top 15) f fd) (O_is_number : OkD P w K mg base "is_number" (top 6) 2 ["thing"] sp_is_number) : OkD P w K mg base "need_numbers" (top 15) 3 ["things"] sp_need_numbers := by
  refine ⟨f, fd, hm, F, okD (g := g_need_numbers) F sc_need_numbers len_need_numbers (fun cdv A outer s H E W F R hr hE hp hx => ?_) law_need_numbers⟩
  have nd := sc_need_numbers.nd
  have hu65 := hu65_of hr
  exact (sds_one (sd_for hp rfl (pid_data (ed_var 0 (pv 0))) (gd_name (pg_name (i := 1) nd rfl (Or.inl rfl))) (sds_one (sd_if (td_not (td_val (ed_o (k := 2) O_is_number bp_is_number (hr.mono (by decide)) hx hE (ad_cons (ed_var 1 (pv 1)) ad_nil)).toB)) (sds_one sd_never) sds_nil))))
theorem ok__law_golden {f : Addr} {fd : FuncData} (bt : Bt mg) (hm : mg "_law_golden" = some (.ref f)) (F : Fun K "_law_golden" "_law_golden" (top 30) f fd) (O__law_pick : OkD P w K mg base "_law_pick" (top 25) 2 ["_law_deck_here", "_law_some"] sp__law_pick) (O__law_draw : OkD P w K mg base "_law_draw" (top 24) 1 ["_law_deck_here", "_law_many"] spDraw) (O__law_thin : OkD P w K mg base "_law_thin" (top 29) 2 ["_law_deck_here", "_law_pieces"] sp__law_thin) (O__law_integer : OkD P w K mg base "_law_integer" (top 26) 2 ["_law_deck_here", "_law_pieces"] sp__law_integer) : OkD P w K mg base "_law_golden" (top 30) 3 ["_law_deck_here", "_law_pieces"] sp__law_golden := by
  refine ⟨f, fd, hm, F, okD (g := g__law_golden) F sc__law_golden len__law_golden (fun cdv A outer s H E W F R hr hE hp hx => ?_) law__law_golden⟩
  have nd := sc__law_golden.nd
  have hu65 := hu65_of hr
  exact (sds_cons (sd_set (i := 2) nd rfl (Or.inl rfl) (ed_o (k := 2) O__law_pick bp__law_pick (hr.mono (by decide)) hx hE (ad_cons (ed_var 0 (pv 0)) (ad_cons (ed_tup (ad_cons ed_int (ad_cons ed_int (ad_cons ed_int (ad_cons ed_int (ad_cons ed_int (ad_cons ed_int (ad_cons ed_int (ad_cons ed_int (ad_cons ed_int (ad_cons ed_int ad_nil))))))))))) ad_nil))))
      (sds_cons (sd_if (td_cmp (o_eq hr.units) (ed_var 2 (pv 2)).toB ed_int.toB (nomark _)) (sds_one (sd_set (i := 2) nd rfl (Or.inl rfl) (ed_bin o_add ed_int.toB (ed_callB c_abs (by rfl) bt.b_abs nbAbs (abd_cons (ed_o (k := 2) O__law_integer bp__law_integer (hr.mono (by decide)) hx hE (ad_cons (ed_var 0 (pv 0)) (ad_cons (ed_var 1 (pv 1)) ad_nil))).toB abd_nil)).toB))) sds_nil)
      (sds_cons (sd_set (i := 3) nd rfl (Or.inl rfl) (ed_o (k := 1) O__law_draw bp__law_draw (hr.mono (by decide)) hx hE (ad_cons (ed_var 0 (pv 0)) (ad_cons ed_int ad_nil))))
      (sds_cons (sd_if (td_cmp (o_eq hr.units) (ed_var 3 (pv 3)).toB ed_int.toB (nomark _)) (sds_one (sd_ret (ed_tup (ad_cons (ed_bin o_mul (ed_var 2 (pv 2)).toB (ed_o (k := 2) O__law_integer bp__law_integer (hr.mono (by decide)) hx hE (ad_cons (ed_var 0 (pv 0)) (ad_cons (ed_var 1 (pv 1)) ad_nil))).toB) (ad_cons ed_int (ad_cons (ed_var 2 (pv 2)) ad_nil)))))) sds_nil)
      (sds_cons (sd_if (td_cmp (o_eq hr.units) (ed_var 3 (pv 3)).toB ed_int.toB (nomark _)) (sds_cons (sd_setT (is := [4, 5]) rfl (na_cons (pg_name (i := 4) nd rfl (Or.inl rfl)) (na_cons (pg_name (i := 5) nd rfl (Or.inl rfl)) na_nil)) (ed_o (k := 2) O__law_thin bp__law_thin (hr.mono (by decide)) hx hE (ad_cons (ed_var 0 (pv 0)) (ad_cons (ed_var 1 (pv 1)) ad_nil))))
      (sds_one (sd_ret (ed_tup (ad_cons (ed_var 4 (pv 4)) (ad_cons (ed_var 5 (pv 5)) (ad_cons (ed_var 2 (pv 2)) ad_nil))))))) sds_nil)
      (sds_cons (sd_if (td_cmp (o_eq hr.units) (ed_var 3 (pv 3)).toB ed_int.toB (nomark _)) (sds_cons (sd_setT (is := [4, 5]) rfl (na_cons (pg_name (i := 4) nd rfl (Or.inl rfl)) (na_cons (pg_name (i := 5) nd rfl (Or.inl rfl)) na_nil)) (ed_o (k := 2) O__law_thin bp__law_thin (hr.mono (by decide)) hx hE (ad_cons (ed_var 0 (pv 0)) (ad_cons (ed_var 1 (pv 1)) ad_nil))))
      (sds_one (sd_ret (ed_tup (ad_cons (ed_bin o_add (ed_bin o_mul (ed_var 2 (pv 2)).toB (ed_o (k := 2) O__law_integer bp__law_integer (hr.mono (by decide)) hx hE (ad_cons (ed_var 0 (pv 0)) (ad_cons ed_int ad_nil))).toB).toB (ed_var 4 (pv 4)).toB) (ad_cons (ed_var 5 (pv 5)) (ad_cons (ed_var 2 (pv 2)) ad_nil))))))) sds_nil)
      (sds_one (sd_ret (ed_tup (ad_cons (ed_o (k := 2) O__law_integer bp__law_integer (hr.mono (by decide)) hx hE (ad_cons (ed_var 0 (pv 0)) (ad_cons (ed_var 1 (pv 1)) ad_nil))) (ad_cons (ed_o (k := 2) O__law_integer bp__law_integer (hr.mono (by decide)) hx hE (ad_cons (ed_var 0 (pv 0)) (ad_cons (ed_var 1 (pv 1)) ad_nil))) (ad_cons (ed_var 2 (pv 2)) ad_nil))))))))))))
theorem ok__law_is_between {f : Addr} {fd : FuncData} (bt : Bt mg) (hm : mg "_law_is_between" = some (.ref f)) (F : Fun K "_law_is_between" "_law_is_between" (top 33) f fd) (O__law_apart : OkD P w K mg base "_law_apart" (top 32) 2 ["_law_p", "_law_q"] sp__law_apart) : OkD P w K mg base "_law_is_between" (top 33) 3 ["_law_p", "_law_low", "_law_high"] sp__law_is_between := by
  refine ⟨f, fd, hm, F, okD (g := g__law_is_between) F sc__law_is_between len__law_is_between (fun cdv A outer s H E W F R hr hE hp hx => ?_) law__law_is_between⟩
  have nd := sc__law_is_between.nd
  have hu65 := hu65_of hr
  exact (sds_cons (sd_if (td_cmp (o_ne hr.units) (fd_lc (own := [("_law_it", 3)]) rfl nd (pid_data (ed_tup (ad_cons (ed_var 1 (pv 1)) (ad_cons (ed_var 2 (pv 2)) ad_nil)))) (blkOk_by (own := [("_law_it", 3)]) (N := ["_law_p", "_law_low", "_law_high", "_law_it"]) (sc := defScope (top 33)) (by decide +kernel)) (ct_name (by decide)) (fun _ _ _ _ _ => pg_name (i := 3) nd rfl (Or.inl rfl)) (fun _ _ _ _ _ => (tds_one (wd_or (td_not (td_val (ed_callB c_isi (by rfl) bt.b_isinstance nbIsi (abd_cons (ed_var 3 (pv 3)).toB (abd_cons (ed_ty (by rfl) bt.b_int nbInt).toB abd_nil))).toB)) (wd_or1 (td_val (ed_callB c_isi (by rfl) bt.b_isinstance nbIsi (abd_cons (ed_var 3 (pv 3)).toB (abd_cons (ed_ty (by rfl) bt.b_bool nbBool).toB abd_nil))).toB))).t)) (fun _ _ _ _ _ => (ed_var 3 (pv 3)))).toE.toB (fd_lst ad_nil).toE.toB (nomark _)) (sds_one (sd_ret ed_bl)) sds_nil)
      (sds_cons (sd_if (wd_or (td_cmp o_lt (ed_o (k := 2) O__law_apart bp__law_apart (hr.mono (by decide)) hx hE (ad_cons (ed_var 0 (pv 0)) (ad_cons (ed_tup (ad_cons (ed_var 1 (pv 1)) (ad_cons ed_int (ad_cons ed_int ad_nil)))) ad_nil))).toB ed_int.toB (nomark _)) (wd_or1 (td_cmp o_ge (ed_o (k := 2) O__law_apart bp__law_apart (hr.mono (by decide)) hx hE (ad_cons (ed_var 0 (pv 0)) (ad_cons (ed_tup (ad_cons (ed_bin o_add (ed_var 1 (pv 1)).toB ed_int.toB) (ad_cons ed_int (ad_cons ed_int ad_nil)))) ad_nil))).toB ed_int.toB (nomark _)))).t (sds_one (sd_ret ed_bl)) sds_nil)
      (sds_one (sd_ret (ed_and (ed_cmp o_le (ed_o (k := 2) O__law_apart bp__law_apart (hr.mono (by decide)) hx hE (ad_cons (ed_var 0 (pv 0)) (ad_cons (ed_tup (ad_cons (ed_var 2 (pv 2)) (ad_cons ed_int (ad_cons ed_int ad_nil)))) ad_nil))).toB ed_int.toB (nomark _)) (ed_one (ed_cmp o_gt (ed_o (k := 2) O__law_apart bp__law_apart (hr.mono (by decide)) hx hE (ad_cons (ed_var 0 (pv 0)) (ad_cons (ed_tup (ad_cons (ed_bin o_sub (ed_var 2 (pv 2)).toB ed_int.toB) (ad_cons ed_int (ad_cons ed_int ad_nil)))) ad_nil))).toB ed_int.toB (nomark _))))))))
theorem ok_sign {f : Addr} {fd : FuncData} (bt : Bt mg) (hm : mg "sign" = some (.ref f)) (F : Fun K "sign" "sign" (top 16) f fd) (O_need_numbers : OkD P w K mg base "need_numbers" (top 15) 3 ["things"] sp_need_numbers) (O_sign_of : OkD P w K mg base "sign_of" (top 8) 2 ["one"] sp_sign_of) : OkD P w K mg base "sign" (top 16) 4 ["number"] sp_sign := by
  refine ⟨f, fd, hm, F, okD (g := g_sign) F sc_sign len_sign (fun cdv A outer s H E W F R hr hE hp hx => ?_) law_sign⟩
  have nd := sc_sign.nd
  have hu65 := hu65_of hr
  exact (sds_cons (sd_drop (ed_o (k := 3) O_need_numbers bp_need_numbers (hr.mono (by decide)) hx hE (ad_cons (ed_tup (ad_cons (ed_var 0 (pv 0)) ad_nil)) ad_nil)).toB)
      (sds_one (sd_ret (ed_o (k := 2) O_sign_of bp_sign_of (hr.mono (by decide)) hx hE (ad_cons (ed_var 0 (pv 0)) ad_nil)))))
theorem ok_is_below {f : Addr} {fd : FuncData} (bt : Bt mg) (hm : mg "is_below" = some (.ref f)) (F : Fun K "is_below" "is_below" (top 17) f fd) (O_need_numbers : OkD P w K mg base "need_numbers" (top 15) 3 ["things"] sp_need_numbers) (O_compared : OkD P w K mg base "compared" (top 9) 2 ["one", "other"] sp_compared) : OkD P w K mg base "is_below" (top 17) 4 ["one", "other"] sp_is_below := by
  refine ⟨f, fd, hm, F, okD (g := g_is_below) F sc_is_below len_is_below (fun cdv A outer s H E W F R hr hE hp hx => ?_) law_is_below⟩
  have nd := sc_is_below.nd
  have hu65 := hu65_of hr
  exact (sds_cons (sd_drop (ed_o (k := 3) O_need_numbers bp_need_numbers (hr.mono (by decide)) hx hE (ad_cons (ed_tup (ad_cons (ed_var 0 (pv 0)) (ad_cons (ed_var 1 (pv 1)) ad_nil))) ad_nil)).toB)
      (sds_one (sd_ret (ed_cmp o_lt (ed_o (k := 2) O_compared bp_compared (hr.mono (by decide)) hx hE (ad_cons (ed_var 0 (pv 0)) (ad_cons (ed_var 1 (pv 1)) ad_nil))).toB ed_int.toB (nomark _)))))
theorem ok_are_equal {f : Addr} {fd : FuncData} (bt : Bt mg) (hm : mg "are_equal" = some (.ref f)) (F : Fun K "are_equal" "are_equal" (top 18) f fd) (O_need_numbers : OkD P w K mg base "need_numbers" (top 15) 3 ["things"] sp_need_numbers) (O_compared : OkD P w K mg base "compared" (top 9) 2 ["one", "other"] sp_compared) : OkD P w K mg base "are_equal" (top 18) 4 ["one", "other"] sp_are_equal := by
  refine ⟨f, fd, hm, F, okD (g := g_are_equal) F sc_are_equal len_are_equal (fun cdv A outer s H E W F R hr hE hp hx => ?_) law_are_equal⟩
  have nd := sc_are_equal.nd
  have hu65 := hu65_of hr
  exact (sds_cons (sd_drop (ed_o (k := 3) O_need_numbers bp_need_numbers (hr.mono (by decide)) hx hE (ad_cons (ed_tup (ad_cons (ed_var 0 (pv 0)) (ad_cons (ed_var 1 (pv 1)) ad_nil))) ad_nil)).toB)
      (sds_one (sd_ret (ed_cmp (o_eq hr.units) (ed_o (k := 2) O_compared bp_compared (hr.mono (by decide)) hx hE (ad_cons (ed_var 0 (pv 0)) (ad_cons (ed_var 1 (pv 1)) ad_nil))).toB ed_int.toB (nomark _)))))
theorem ok_integer_below {f : Addr} {fd : FuncData} (bt : Bt mg) (hm : mg "integer_below" = some (.ref f)) (F : Fun K "integer_below" "integer_below" (top 19) f fd) (O_need_numbers : OkD P w K mg base "need_numbers" (top 15) 3 ["things"] sp_need_numbers) (O_floor_integer : OkD P w K mg base "floor_integer" (top 12) 1 ["one"] sp_floor_integer) : OkD P w K mg base "integer_below" (top 19) 4 ["number"] sp_integer_below := by
  refine ⟨f, fd, hm, F, okD (g := g_integer_below) F sc_integer_below len_integer_below (fun cdv A outer s H E W F R hr hE hp hx => ?_) law_integer_below⟩
  have nd := sc_integer_below.nd
  have hu65 := hu65_of hr
  exact (sds_cons (sd_drop (ed_o (k := 3) O_need_numbers bp_need_numbers (hr.mono (by decide)) hx hE (ad_cons (ed_tup (ad_cons (ed_var 0 (pv 0)) ad_nil)) ad_nil)).toB)
      (sds_one (sd_ret (ed_o (k := 1) O_floor_integer bp_floor_integer (hr.mono (by decide)) hx hE (ad_cons (ed_var 0 (pv 0)) ad_nil)))))
theorem ok_integer_above {f : Addr} {fd : FuncData} (bt : Bt mg) (hm : mg "integer_above" = some (.ref f)) (F : Fun K "integer_above" "integer_above" (top 20) f fd) (O_need_numbers : OkD P w K mg base "need_numbers" (top 15) 3 ["things"] sp_need_numbers) (O_ceiling_integer : OkD P w K mg base "ceiling_integer" (top 13) 2 ["one"] sp_ceiling_integer) : OkD P w K mg base "integer_above" (top 20) 4 ["number"] sp_integer_above := by
  refine ⟨f, fd, hm, F, okD (g := g_integer_above) F sc_integer_above len_integer_above (fun cdv A outer s H E W F R hr hE hp hx => ?_) law_integer_above⟩
  have nd := sc_integer_above.nd
  have hu65 := hu65_of hr
  exact (sds_cons (sd_drop (ed_o (k := 3) O_need_numbers bp_need_numbers (hr.mono (by decide)) hx hE (ad_cons (ed_tup (ad_cons (ed_var 0 (pv 0)) ad_nil)) ad_nil)).toB)
      (sds_one (sd_ret (ed_o (k := 2) O_ceiling_integer bp_ceiling_integer (hr.mono (by decide)) hx hE (ad_cons (ed_var 0 (pv 0)) ad_nil)))))
theorem ok_is_whole {f : Addr} {fd : FuncData} (bt : Bt mg) (hm : mg "is_whole" = some (.ref f)) (F : Fun K "is_whole" "is_whole" (top 21) f fd) (O_need_numbers : OkD P w K mg base "need_numbers" (top 15) 3 ["things"] sp_need_numbers) (O_is_whole_number : OkD P w K mg base "is_whole_number" (top 11) 1 ["one"] sp_is_whole_number) : OkD P w K mg base "is_whole" (top 21) 4 ["number"] sp_is_whole := by
  refine ⟨f, fd, hm, F, okD (g := g_is_whole) F sc_is_whole len_is_whole (fun cdv A outer s H E W F R hr hE hp hx => ?_) law_is_whole⟩
  have nd := sc_is_whole.nd
  have hu65 := hu65_of hr
  exact (sds_cons (sd_drop (ed_o (k := 3) O_need_numbers bp_need_numbers (hr.mono (by decide)) hx hE (ad_cons (ed_tup (ad_cons (ed_var 0 (pv 0)) ad_nil)) ad_nil)).toB)
      (sds_one (sd_ret (ed_o (k := 1) O_is_whole_number bp_is_whole_number (hr.mono (by decide)) hx hE (ad_cons (ed_var 0 (pv 0)) ad_nil)))))
theorem ok__law_other {f : Addr} {fd : FuncData} (bt : Bt mg) (hm : mg "_law_other" = some (.ref f)) (F : Fun K "_law_other" "_law_other" (top 31) f fd) (O__law_golden : OkD P w K mg base "_law_golden" (top 30) 3 ["_law_deck_here", "_law_pieces"] sp__law_golden) (O__law_draw : OkD P w K mg base "_law_draw" (top 24) 1 ["_law_deck_here", "_law_many"] spDraw) (O__law_thin : OkD P w K mg base "_law_thin" (top 29) 2 ["_law_deck_here", "_law_pieces"] sp__law_thin) : OkD P w K mg base "_law_other" (top 31) 4 ["_law_deck_here", "_law_p", "_law_pieces"] sp__law_other := by
  refine ⟨f, fd, hm, F, okD (g := g__law_other) F sc__law_other len__law_other (fun cdv A outer s H E W F R hr hE hp hx => ?_) law__law_other⟩
  have nd := sc__law_other.nd
  have hu65 := hu65_of hr
  exact (sds_cons (sd_par2 (i := 3) (j := 4) rfl nd rfl rfl (by decide) rfl rfl (ad_cons (ed_o (k := 1) O__law_draw bp__law_draw (hr.mono (by decide)) hx hE (ad_cons (ed_var 0 (pv 0)) (ad_cons ed_int ad_nil))) (ad_cons (ed_bin o_add ed_int.toB (ed_o (k := 1) O__law_draw bp__law_draw (hr.mono (by decide)) hx hE (ad_cons (ed_var 0 (pv 0)) (ad_cons ed_int ad_nil))).toB) ad_nil)) (by rfl))
      (sds_cons (sd_if (td_cmp (o_eq hr.units) (ed_var 3 (pv 3)).toB ed_int.toB (nomark _)) (sds_one (sd_ret (ed_tup (ad_cons (ed_bin o_mul (ed_var 4 (pv 4)).toB (ed_ix (ed_var 1 (pv 1)).toB ed_int.toB).toB) (ad_cons (ed_bin o_mul (ed_var 4 (pv 4)).toB (ed_ix (ed_var 1 (pv 1)).toB ed_int.toB).toB) (ad_cons (ed_bin o_mul (ed_var 4 (pv 4)).toB (ed_ix (ed_var 1 (pv 1)).toB ed_int.toB).toB) ad_nil)))))) sds_nil)
      (sds_cons (sd_if (td_cmp o_lt (ed_var 3 (pv 3)).toB ed_int.toB (nomark _)) (sds_cons (sd_setT (is := [5, 6]) rfl (na_cons (pg_name (i := 5) nd rfl (Or.inl rfl)) (na_cons (pg_name (i := 6) nd rfl (Or.inl rfl)) na_nil)) (ed_o (k := 2) O__law_thin bp__law_thin (hr.mono (by decide)) hx hE (ad_cons (ed_var 0 (pv 0)) (ad_cons (ed_var 2 (pv 2)) ad_nil))))
      (sds_one (sd_ret (ed_tup (ad_cons (ed_bin o_add (ed_bin o_mul (ed_var 4 (pv 4)).toB (ed_ix (ed_var 1 (pv 1)).toB ed_int.toB).toB).toB (ed_var 5 (pv 5)).toB) (ad_cons (ed_bin o_add (ed_bin o_mul (ed_var 4 (pv 4)).toB (ed_ix (ed_var 1 (pv 1)).toB ed_int.toB).toB).toB (ed_var 6 (pv 6)).toB) (ad_cons (ed_bin o_mul (ed_var 4 (pv 4)).toB (ed_ix (ed_var 1 (pv 1)).toB ed_int.toB).toB) ad_nil))))))) sds_nil)
      (sds_cons (sd_if (td_cmp (o_eq hr.units) (ed_var 3 (pv 3)).toB ed_int.toB (nomark _)) (sds_one (sd_ret (ed_tup (ad_cons (ed_ix (ed_var 1 (pv 1)).toB ed_int.toB) (ad_cons (ed_bin o_sub (ed_bin o_add (ed_ix (ed_var 1 (pv 1)).toB ed_int.toB).toB ed_int.toB).toB (ed_bin o_mul ed_int.toB (ed_o (k := 1) O__law_draw bp__law_draw (hr.mono (by decide)) hx hE (ad_cons (ed_var 0 (pv 0)) (ad_cons ed_int ad_nil))).toB).toB) (ad_cons (ed_ix (ed_var 1 (pv 1)).toB ed_int.toB) ad_nil)))))) sds_nil)
      (sds_one (sd_ret (ed_o (k := 3) O__law_golden bp__law_golden (hr.mono (by decide)) hx hE (ad_cons (ed_var 0 (pv 0)) (ad_cons (ed_var 2 (pv 2)) ad_nil)))))))))
theorem ok__law_are_right {f : Addr} {fd : FuncData} (bt : Bt mg) (hm : mg "_law_are_right" = some (.ref f)) (F : Fun K "_law_are_right" "_law_are_right" (top 34) f fd) (O__law_is_between : OkD P w K mg base "_law_is_between" (top 33) 3 ["_law_p", "_law_low", "_law_high"] sp__law_is_between) (O__law_sign : OkD P w K mg base "_law_sign" (top 27) 1 ["_law_a", "_law_b"] sp__law_sign) (O__law_apart : OkD P w K mg base "_law_apart" (top 32) 2 ["_law_p", "_law_q"] sp__law_apart) (O__law_same : OkG P w K mg base "_law_same" (top 28) 1 ["_law_told", "_law_due"] sp__law_same) (O_integer_below : OkD P w K mg base "integer_below" (top 19) 4 ["number"] sp_integer_below) (O_integer_above : OkD P w K mg base "integer_above" (top 20) 4 ["number"] sp_integer_above) (O_sign : OkD P w K mg base "sign" (top 16) 4 ["number"] sp_sign) (O_is_below : OkD P w K mg base "is_below" (top 17) 4 ["one", "other"] sp_is_below) (O_are_equal : OkD P w K mg base "are_equal" (top 18) 4 ["one", "other"] sp_are_equal) (O_is_whole : OkD P w K mg base "is_whole" (top 21) 4 ["number"] sp_is_whole) : OkG P w K mg base "_law_are_right" (top 34) 5 ["_law_p", "_law_q"] sp__law_are_right := by
  refine ⟨f, fd, hm, F, okG (g := g__law_are_right) F sc__law_are_right len__law_are_right (fun cdv A outer s H E W F R hG hr hE hp hx => ?_) law__law_are_right⟩
  have nd := sc__law_are_right.nd
  have hu65 := hu65_of hr
  exact (sds_cons (sd_par3 (i := 2) (j := 3) (l := 4) rfl nd rfl rfl rfl (by decide) (by decide) (by decide) rfl rfl rfl (ad_cons (ed_o (k := 1) O__law_sign bp__law_sign (hr.mono (by decide)) hx hE (ad_cons (ed_ix (ed_var 0 (pv 0)).toB ed_int.toB) (ad_cons (ed_ix (ed_var 0 (pv 0)).toB ed_int.toB) ad_nil))) (ad_cons (ed_o (k := 1) O__law_sign bp__law_sign (hr.mono (by decide)) hx hE (ad_cons (ed_ix (ed_var 1 (pv 1)).toB ed_int.toB) (ad_cons (ed_ix (ed_var 1 (pv 1)).toB ed_int.toB) ad_nil))) (ad_cons (ed_o (k := 2) O__law_apart bp__law_apart (hr.mono (by decide)) hx hE (ad_cons (ed_var 0 (pv 0)) (ad_cons (ed_var 1 (pv 1)) ad_nil))) ad_nil))) (by rfl))
      (sds_cons (sd_if (td_not (td_val (ed_g (k := 1) O__law_same bp__law_same hG (hr.mono (by decide)) hx hE (ad_cons (ed_tup (ad_cons (ed_o (k := 4) O_sign bp_sign (hr.mono (by decide)) hx hE (ad_cons (ed_var 0 (pv 0)) ad_nil)) (ad_cons (ed_o (k := 4) O_sign bp_sign (hr.mono (by decide)) hx hE (ad_cons (ed_var 1 (pv 1)) ad_nil)) (ad_cons (ed_ok0 (k := 4) O_sign (by decide) kb_sign_0 (hr.mono (by decide)) hx hE (kd_cons (ed_var 0 (pv 0)) kd_nil)) ad_nil)))) (ad_cons (ed_tup (ad_cons (ed_var 2 (pv 2)) (ad_cons (ed_var 3 (pv 3)) (ad_cons (ed_var 2 (pv 2)) ad_nil)))) ad_nil))).toB)) (sds_one (sd_ret ed_bl)) sds_nil)
      (sds_cons (sd_if (td_not (td_val (ed_g (k := 1) O__law_same bp__law_same hG (hr.mono (by decide)) hx hE (ad_cons (ed_tup (ad_cons (ed_o (k := 4) O_is_below bp_is_below (hr.mono (by decide)) hx hE (ad_cons (ed_var 0 (pv 0)) (ad_cons (ed_var 1 (pv 1)) ad_nil))) (ad_cons (ed_o (k := 4) O_is_below bp_is_below (hr.mono (by decide)) hx hE (ad_cons (ed_var 1 (pv 1)) (ad_cons (ed_var 0 (pv 0)) ad_nil))) (ad_cons (ed_ok0 (k := 4) O_is_below (by decide) kb_is_below_0 (hr.mono (by decide)) hx hE (kd_cons (ed_var 1 (pv 1)) (kd_cons (ed_var 0 (pv 0)) kd_nil))) ad_nil)))) (ad_cons (ed_tup (ad_cons (ed_cmp o_lt (ed_var 4 (pv 4)).toB ed_int.toB (nomark _)) (ad_cons (ed_cmp o_gt (ed_var 4 (pv 4)).toB ed_int.toB (nomark _)) (ad_cons (ed_cmp o_lt (ed_var 4 (pv 4)).toB ed_int.toB (nomark _)) ad_nil)))) ad_nil))).toB)) (sds_one (sd_ret ed_bl)) sds_nil)
      (sds_cons (sd_if (td_not (td_val (ed_g (k := 1) O__law_same bp__law_same hG (hr.mono (by decide)) hx hE (ad_cons (ed_tup (ad_cons (ed_o (k := 4) O_are_equal bp_are_equal (hr.mono (by decide)) hx hE (ad_cons (ed_var 0 (pv 0)) (ad_cons (ed_var 1 (pv 1)) ad_nil))) (ad_cons (ed_ok0 (k := 4) O_are_equal (by decide) kb_are_equal_0 (hr.mono (by decide)) hx hE (kd_cons (ed_var 1 (pv 1)) (kd_cons (ed_var 0 (pv 0)) kd_nil))) (ad_cons (ed_o (k := 4) O_are_equal bp_are_equal (hr.mono (by decide)) hx hE (ad_cons (ed_var 0 (pv 0)) (ad_cons (ed_var 0 (pv 0)) ad_nil))) ad_nil)))) (ad_cons (ed_tup (ad_cons (ed_cmp (o_eq hr.units) (ed_var 4 (pv 4)).toB ed_int.toB (nomark _)) (ad_cons (ed_cmp (o_eq hr.units) (ed_var 4 (pv 4)).toB ed_int.toB (nomark _)) (ad_cons ed_bl ad_nil)))) ad_nil))).toB)) (sds_one (sd_ret ed_bl)) sds_nil)
      (sds_cons (sd_for hp rfl (pid_data (ed_tup (ad_cons (ed_var 0 (pv 0)) (ad_cons (ed_var 1 (pv 1)) ad_nil)))) (gd_name (pg_name (i := 5) nd rfl (Or.inl rfl))) (sds_cons (sd_set (i := 6) nd rfl (Or.inl rfl) (ed_and (ed_cmp (o_eq hr.units) (ed_bin o_mod (ed_callTy c_int (by rfl) bt.b_int nbInt (abd_cons (ed_ix (ed_var 5 (pv 5)).toB ed_int.toB).toB abd_nil)).toB (ed_ix (ed_var 5 (pv 5)).toB ed_int.toB).toB).toB ed_int.toB (nomark _)) (ed_one (ed_cmp (o_eq hr.units) (ed_bin o_mod (ed_callTy c_int (by rfl) bt.b_int nbInt (abd_cons (ed_ix (ed_var 5 (pv 5)).toB ed_int.toB).toB abd_nil)).toB (ed_ix (ed_var 5 (pv 5)).toB ed_int.toB).toB).toB ed_int.toB (nomark _)))))
      (sds_cons (sd_if (td_not (td_val (ed_g (k := 1) O__law_same bp__law_same hG (hr.mono (by decide)) hx hE (ad_cons (ed_tup (ad_cons (ed_o (k := 4) O_is_whole bp_is_whole (hr.mono (by decide)) hx hE (ad_cons (ed_var 5 (pv 5)) ad_nil)) (ad_cons (ed_ok0 (k := 4) O_is_whole (by decide) kb_is_whole_0 (hr.mono (by decide)) hx hE (kd_cons (ed_var 5 (pv 5)) kd_nil)) ad_nil))) (ad_cons (ed_tup (ad_cons (ed_var 6 (pv 6)) (ad_cons (ed_var 6 (pv 6)) ad_nil))) ad_nil))).toB)) (sds_one (sd_ret ed_bl)) sds_nil)
      (sds_one (sd_if (td_not (td_val (ed_o (k := 3) O__law_is_between bp__law_is_between (hr.mono (by decide)) hx hE (ad_cons (ed_var 5 (pv 5)) (ad_cons (ed_o (k := 4) O_integer_below bp_integer_below (hr.mono (by decide)) hx hE (ad_cons (ed_var 5 (pv 5)) ad_nil)) (ad_cons (ed_o (k := 4) O_integer_above bp_integer_above (hr.mono (by decide)) hx hE (ad_cons (ed_var 5 (pv 5)) ad_nil)) ad_nil)))).toB)) (sds_one (sd_ret ed_bl)) sds_nil)))))
      (sds_one (sd_ret (ed_o (k := 3) O__law_is_between bp__law_is_between (hr.mono (by decide)) hx hE (ad_cons (ed_var 0 (pv 0)) (ad_cons (ed_ok0 (k := 4) O_integer_below (by decide) kb_integer_below_0 (hr.mono (by decide)) hx hE (kd_cons (ed_var 0 (pv 0)) kd_nil)) (ad_cons (ed_ok0 (k := 4) O_integer_above (by decide) kb_integer_above_0 (hr.mono (by decide)) hx hE (kd_cons (ed_var 0 (pv 0)) kd_nil)) ad_nil)))))))))))
theorem ok_law {f fk : Addr} {fd fdk : FuncData} (bt : Bt mg) (hmk : mg "_law_deck" = some (.ref fk)) (Fk : Fun K "_law_deck" "_law_deck" (top 23) fk fdk) (F : Fun K "law" "law" (top 35) f fd) (O__law_golden : OkD P w K mg base "_law_golden" (top 30) 3 ["_law_deck_here", "_law_pieces"] sp__law_golden) (O__law_draw : OkD P w K mg base "_law_draw" (top 24) 1 ["_law_deck_here", "_law_many"] spDraw) (O__law_are_right : OkG P w K mg base "_law_are_right" (top 34) 5 ["_law_p", "_law_q"] sp__law_are_right) (O__law_other : OkD P w K mg base "_law_other" (top 31) 4 ["_law_deck_here", "_law_p", "_law_pieces"] sp__law_other) : FnG P w K mg base 6 f fd ["_law_script"] (spLaw K) := by
  refine okLaw (g := fun W => g_law W fun _ => False) F sc_law (by decide) rfl (fun cdv A outer s H E hG hr hp hx => ⟨ps_set (i := 1) sc_law.nd rfl (Or.inl rfl) (pe_call (ok__law_deck bt Fk) (hr.mono (by decide)) rfl hmk Fk.kp (Fk.binds bp__law_deck) .nil hx (pa_cons (pv 0) pa_nil)), fun p H0 => ?_⟩) law_law
  have nd := sc_law.nd
  have W : WD := some p
  have hE : FinE (some p) ⟨K, mg⟩ hp0 H0 (fun _ => False) E := fun er z => z.elim
  have hu65 := hu65_of hr
  exact (sds_cons (sd_for hp rfl (pid_rng1 (by rfl) bt.b_range (ad_cons ed_int ad_nil)) (gd_name (pg_name (i := 2) nd rfl (Or.inl rfl))) (sds_cons (sd_set (i := 3) nd rfl (Or.inl rfl) (ed_o (k := 3) O__law_golden bp__law_golden (hr.mono (by decide)) hx hE (ad_cons (ed_var 1 (pv 1)) (ad_cons ed_int ad_nil))))
      (sds_one (sd_if (td_not (td_val (ed_g (k := 5) O__law_are_right bp__law_are_right hG (hr.mono (by decide)) hx hE (ad_cons (ed_var 3 (pv 3)) (ad_cons (ed_o (k := 4) O__law_other bp__law_other (hr.mono (by decide)) hx hE (ad_cons (ed_var 1 (pv 1)) (ad_cons (ed_var 3 (pv 3)) (ad_cons ed_int ad_nil)))) ad_nil))).toB)) (sds_one (sd_ret ed_bl)) sds_nil))))
      (sds_cons (sd_if (td_cmp (o_eq hr.units) (ed_o (k := 1) O__law_draw bp__law_draw (hr.mono (by decide)) hx hE (ad_cons (ed_var 1 (pv 1)) (ad_cons ed_int ad_nil))).toB ed_int.toB (nomark _)) (sds_cons (sd_set (i := 3) nd rfl (Or.inl rfl) (ed_o (k := 3) O__law_golden bp__law_golden (hr.mono (by decide)) hx hE (ad_cons (ed_var 1 (pv 1)) (ad_cons ed_int ad_nil))))
      (sds_one (sd_ret (ed_g (k := 5) O__law_are_right bp__law_are_right hG (hr.mono (by decide)) hx hE (ad_cons (ed_var 3 (pv 3)) (ad_cons (ed_o (k := 4) O__law_other bp__law_other (hr.mono (by decide)) hx hE (ad_cons (ed_var 1 (pv 1)) (ad_cons (ed_var 3 (pv 3)) (ad_cons ed_int ad_nil)))) ad_nil)))))) sds_nil)
      (sds_one (sd_ret ed_bl))))
end
theorem all_ok {l : PySem.W.OpenLaw} {w : World} {K : PySem.W.Frag} {h : Heap} {mg : Str → Option Value} {fa : Addr} (X : K.In h) (G : h.Ns mainGlobals mg) (hfa : mg "law" = some (.ref fa))
    {f5 f6 f7 f8 f9 f10 f11 f12 f13 f15 f16 f17 f18 f19 f20 f21 f23 f24 f25 f26 f27 f28 f29 f30 f31 f32 f33 f34 f35 : Addr} {od5 an5 od6 an6 od7 an7 od8 an8 od9 an9 od10 an10 od11 an11 od12 an12 od13 an13 od15 an15 od16 an16 od17 an17 od18 an18 od19 an19 od20 an20 od21 an21 od23 an23 od24 an24 od25 an25 od26 an26 od27 an27 od28 an28 od29 an29 od30 an30 od31 an31 od32 an32 od33 an33 od34 an34 od35 an35 : Option Addr} {sl5 sl6 sl7 sl8 sl9 sl10 sl11 sl12 sl13 sl15 sl16 sl17 sl18 sl19 sl20 sl21 sl23 sl24 sl25 sl26 sl27 sl28 sl29 sl30 sl31 sl32 sl33 sl34 sl35 : Array (Option Value)} {oc5 kV5 dc5 pm5 cd5 ct5 oc6 kV6 dc6 pm6 cd6 ct6 oc7 kV7 dc7 pm7 cd7 ct7 oc8 kV8 dc8 pm8 cd8 ct8 oc9 kV9 dc9 pm9 cd9 ct9 oc10 kV10 dc10 pm10 cd10 ct10 oc11 kV11 dc11 pm11 cd11 ct11 oc12 kV12 dc12 pm12 cd12 ct12 oc13 kV13 dc13 pm13 cd13 ct13 oc15 kV15 dc15 pm15 cd15 ct15 oc16 kV16 dc16 pm16 cd16 ct16 oc17 kV17 dc17 pm17 cd17 ct17 oc18 kV18 dc18 pm18 cd18 ct18 oc19 kV19 dc19 pm19 cd19 ct19 oc20 kV20 dc20 pm20 cd20 ct20 oc21 kV21 dc21 pm21 cd21 ct21 oc23 kV23 dc23 pm23 cd23 ct23 oc24 kV24 dc24 pm24 cd24 ct24 oc25 kV25 dc25 pm25 cd25 ct25 oc26 kV26 dc26 pm26 cd26 ct26 oc27 kV27 dc27 pm27 cd27 ct27 oc28 kV28 dc28 pm28 cd28 ct28 oc29 kV29 dc29 pm29 cd29 ct29 oc30 kV30 dc30 pm30 cd30 ct30 oc31 kV31 dc31 pm31 cd31 ct31 oc32 kV32 dc32 pm32 cd32 ct32 oc33 kV33 dc33 pm33 cd33 ct33 oc34 kV34 dc34 pm34 cd34 ct34 oc35 kV35 dc35 pm35 cd35 ct35 : Value}
    (a5 : PySem.W.nsIn K mainGlobals "is_integer" = some (some (.ref f5))) (l5 : K.lookup f5 = some ⟨oc5, od5, .func (PySem.W.fnOf "is_integer" "is_integer" (defArgs (top 5)) (defBody (top 5)) (defScope (top 5)) .none kV5 dc5 pm5 an5 cd5 ct5), sl5⟩) (c5 : PySem.W.codeIn K cd5 "is_integer" = true) (k5 : PySem.W.keepIn K (.ref f5) = true) (a6 : PySem.W.nsIn K mainGlobals "is_number" = some (some (.ref f6))) (l6 : K.lookup f6 = some ⟨oc6, od6, .func (PySem.W.fnOf "is_number" "is_number" (defArgs (top 6)) (defBody (top 6)) (defScope (top 6)) .none kV6 dc6 pm6 an6 cd6 ct6), sl6⟩) (c6 : PySem.W.codeIn K cd6 "is_number" = true) (k6 : PySem.W.keepIn K (.ref f6) = true) (a7 : PySem.W.nsIn K mainGlobals "pair_sign" = some (some (.ref f7))) (l7 : K.lookup f7 = some ⟨oc7, od7, .func (PySem.W.fnOf "pair_sign" "pair_sign" (defArgs (top 7)) (defBody (top 7)) (defScope (top 7)) .none kV7 dc7 pm7 an7 cd7 ct7), sl7⟩) (c7 : PySem.W.codeIn K cd7 "pair_sign" = true) (k7 : PySem.W.keepIn K (.ref f7) = true) (a8 : PySem.W.nsIn K mainGlobals "sign_of" = some (some (.ref f8))) (l8 : K.lookup f8 = some ⟨oc8, od8, .func (PySem.W.fnOf "sign_of" "sign_of" (defArgs (top 8)) (defBody (top 8)) (defScope (top 8)) .none kV8 dc8 pm8 an8 cd8 ct8), sl8⟩) (c8 : PySem.W.codeIn K cd8 "sign_of" = true) (k8 : PySem.W.keepIn K (.ref f8) = true) (a9 : PySem.W.nsIn K mainGlobals "compared" = some (some (.ref f9))) (l9 : K.lookup f9 = some ⟨oc9, od9, .func (PySem.W.fnOf "compared" "compared" (defArgs (top 9)) (defBody (top 9)) (defScope (top 9)) .none kV9 dc9 pm9 an9 cd9 ct9), sl9⟩) (c9 : PySem.W.codeIn K cd9 "compared" = true) (k9 : PySem.W.keepIn K (.ref f9) = true) (a10 : PySem.W.nsIn K mainGlobals "negative" = some (some (.ref f10))) (l10 : K.lookup f10 = some ⟨oc10, od10, .func (PySem.W.fnOf "negative" "negative" (defArgs (top 10)) (defBody (top 10)) (defScope (top 10)) .none kV10 dc10 pm10 an10 cd10 ct10), sl10⟩) (c10 : PySem.W.codeIn K cd10 "negative" = true) (k10 : PySem.W.keepIn K (.ref f10) = true) (a11 : PySem.W.nsIn K mainGlobals "is_whole_number" = some (some (.ref f11))) (l11 : K.lookup f11 = some ⟨oc11, od11, .func (PySem.W.fnOf "is_whole_number" "is_whole_number" (defArgs (top 11)) (defBody (top 11)) (defScope (top 11)) .none kV11 dc11 pm11 an11 cd11 ct11), sl11⟩) (c11 : PySem.W.codeIn K cd11 "is_whole_number" = true) (k11 : PySem.W.keepIn K (.ref f11) = true) (a12 : PySem.W.nsIn K mainGlobals "floor_integer" = some (some (.ref f12))) (l12 : K.lookup f12 = some ⟨oc12, od12, .func (PySem.W.fnOf "floor_integer" "floor_integer" (defArgs (top 12)) (defBody (top 12)) (defScope (top 12)) .none kV12 dc12 pm12 an12 cd12 ct12), sl12⟩) (c12 : PySem.W.codeIn K cd12 "floor_integer" = true) (k12 : PySem.W.keepIn K (.ref f12) = true) (a13 : PySem.W.nsIn K mainGlobals "ceiling_integer" = some (some (.ref f13))) (l13 : K.lookup f13 = some ⟨oc13, od13, .func (PySem.W.fnOf "ceiling_integer" "ceiling_integer" (defArgs (top 13)) (defBody (top 13)) (defScope (top 13)) .none kV13 dc13 pm13 an13 cd13 ct13), sl13⟩) (c13 : PySem.W.codeIn K cd13 "ceiling_integer" = true) (k13 : PySem.W.keepIn K (.ref f13) = true) (a15 : PySem.W.nsIn K mainGlobals "need_numbers" = some (some (.ref f15))) (l15 : K.lookup f15 = some ⟨oc15, od15, .func (PySem.W.fnOf "need_numbers" "need_numbers" (defArgs (top 15)) (defBody (top 15)) (defScope (top 15)) .none kV15 dc15 pm15 an15 cd15 ct15), sl15⟩) (c15 : PySem.W.codeIn K cd15 "need_numbers" = true) (k15 : PySem.W.keepIn K (.ref f15) = true) (a16 : PySem.W.nsIn K mainGlobals "sign" = some (some (.ref f16))) (l16 : K.lookup f16 = some ⟨oc16, od16, .func (PySem.W.fnOf "sign" "sign" (defArgs (top 16)) (defBody (top 16)) (defScope (top 16)) .none kV16 dc16 pm16 an16 cd16 ct16), sl16⟩) (c16 : PySem.W.codeIn K cd16 "sign" = true) (k16 : PySem.W.keepIn K (.ref f16) = true) (a17 : PySem.W.nsIn K mainGlobals "is_below" = some (some (.ref f17))) (l17 : K.lookup f17 = some ⟨oc17, od17, .func (PySem.W.fnOf "is_below" "is_below" (defArgs (top 17)) (defBody (top 17)) (defScope (top 17)) .none kV17 dc17 pm17 an17 cd17 ct17), sl17⟩) (c17 : PySem.W.codeIn K cd17 "is_below" = true) (k17 : PySem.W.keepIn K (.ref f17) = true) (a18 : PySem.W.nsIn K mainGlobals "are_equal" = some (some (.ref f18))) (l18 : K.lookup f18 = some ⟨oc18, od18, .func (PySem.W.fnOf "are_equal" "are_equal" (defArgs (top 18)) (defBody (top 18)) (defScope (top 18)) .none kV18 dc18 pm18 an18 cd18 ct18), sl18⟩) (c18 : PySem.W.codeIn K cd18 "are_equal" = true) (k18 : PySem.W.keepIn K (.ref f18) = true) (a19 : PySem.W.nsIn K mainGlobals "integer_below" = some (some (.ref f19))) (l19 : K.lookup f19 = some ⟨oc19, od19, .func (PySem.W.fnOf "integer_below" "integer_below" (defArgs (top 19)) (defBody (top 19)) (defScope (top 19)) .none kV19 dc19 pm19 an19 cd19 ct19), sl19⟩) (c19 : PySem.W.codeIn K cd19 "integer_below" = true) (k19 : PySem.W.keepIn K (.ref f19) = true) (a20 : PySem.W.nsIn K mainGlobals "integer_above" = some (some (.ref f20))) (l20 : K.lookup f20 = some ⟨oc20, od20, .func (PySem.W.fnOf "integer_above" "integer_above" (defArgs (top 20)) (defBody (top 20)) (defScope (top 20)) .none kV20 dc20 pm20 an20 cd20 ct20), sl20⟩) (c20 : PySem.W.codeIn K cd20 "integer_above" = true) (k20 : PySem.W.keepIn K (.ref f20) = true) (a21 : PySem.W.nsIn K mainGlobals "is_whole" = some (some (.ref f21))) (l21 : K.lookup f21 = some ⟨oc21, od21, .func (PySem.W.fnOf "is_whole" "is_whole" (defArgs (top 21)) (defBody (top 21)) (defScope (top 21)) .none kV21 dc21 pm21 an21 cd21 ct21), sl21⟩) (c21 : PySem.W.codeIn K cd21 "is_whole" = true) (k21 : PySem.W.keepIn K (.ref f21) = true) (a23 : PySem.W.nsIn K mainGlobals "_law_deck" = some (some (.ref f23))) (l23 : K.lookup f23 = some ⟨oc23, od23, .func (PySem.W.fnOf "_law_deck" "_law_deck" (defArgs (top 23)) (defBody (top 23)) (defScope (top 23)) .none kV23 dc23 pm23 an23 cd23 ct23), sl23⟩) (c23 : PySem.W.codeIn K cd23 "_law_deck" = true) (k23 : PySem.W.keepIn K (.ref f23) = true) (a24 : PySem.W.nsIn K mainGlobals "_law_draw" = some (some (.ref f24))) (l24 : K.lookup f24 = some ⟨oc24, od24, .func (PySem.W.fnOf "_law_draw" "_law_draw" (defArgs (top 24)) (defBody (top 24)) (defScope (top 24)) .none kV24 dc24 pm24 an24 cd24 ct24), sl24⟩) (c24 : PySem.W.codeIn K cd24 "_law_draw" = true) (k24 : PySem.W.keepIn K (.ref f24) = true) (a25 : PySem.W.nsIn K mainGlobals "_law_pick" = some (some (.ref f25))) (l25 : K.lookup f25 = some ⟨oc25, od25, .func (PySem.W.fnOf "_law_pick" "_law_pick" (defArgs (top 25)) (defBody (top 25)) (defScope (top 25)) .none kV25 dc25 pm25 an25 cd25 ct25), sl25⟩) (c25 : PySem.W.codeIn K cd25 "_law_pick" = true) (k25 : PySem.W.keepIn K (.ref f25) = true) (a26 : PySem.W.nsIn K mainGlobals "_law_integer" = some (some (.ref f26))) (l26 : K.lookup f26 = some ⟨oc26, od26, .func (PySem.W.fnOf "_law_integer" "_law_integer" (defArgs (top 26)) (defBody (top 26)) (defScope (top 26)) .none kV26 dc26 pm26 an26 cd26 ct26), sl26⟩) (c26 : PySem.W.codeIn K cd26 "_law_integer" = true) (k26 : PySem.W.keepIn K (.ref f26) = true) (a27 : PySem.W.nsIn K mainGlobals "_law_sign" = some (some (.ref f27))) (l27 : K.lookup f27 = some ⟨oc27, od27, .func (PySem.W.fnOf "_law_sign" "_law_sign" (defArgs (top 27)) (defBody (top 27)) (defScope (top 27)) .none kV27 dc27 pm27 an27 cd27 ct27), sl27⟩) (c27 : PySem.W.codeIn K cd27 "_law_sign" = true) (k27 : PySem.W.keepIn K (.ref f27) = true) (a28 : PySem.W.nsIn K mainGlobals "_law_same" = some (some (.ref f28))) (l28 : K.lookup f28 = some ⟨oc28, od28, .func (PySem.W.fnOf "_law_same" "_law_same" (defArgs (top 28)) (defBody (top 28)) (defScope (top 28)) .none kV28 dc28 pm28 an28 cd28 ct28), sl28⟩) (c28 : PySem.W.codeIn K cd28 "_law_same" = true) (k28 : PySem.W.keepIn K (.ref f28) = true) (a29 : PySem.W.nsIn K mainGlobals "_law_thin" = some (some (.ref f29))) (l29 : K.lookup f29 = some ⟨oc29, od29, .func (PySem.W.fnOf "_law_thin" "_law_thin" (defArgs (top 29)) (defBody (top 29)) (defScope (top 29)) .none kV29 dc29 pm29 an29 cd29 ct29), sl29⟩) (c29 : PySem.W.codeIn K cd29 "_law_thin" = true) (k29 : PySem.W.keepIn K (.ref f29) = true) (a30 : PySem.W.nsIn K mainGlobals "_law_golden" = some (some (.ref f30))) (l30 : K.lookup f30 = some ⟨oc30, od30, .func (PySem.W.fnOf "_law_golden" "_law_golden" (defArgs (top 30)) (defBody (top 30)) (defScope (top 30)) .none kV30 dc30 pm30 an30 cd30 ct30), sl30⟩) (c30 : PySem.W.codeIn K cd30 "_law_golden" = true) (k30 : PySem.W.keepIn K (.ref f30) = true) (a31 : PySem.W.nsIn K mainGlobals "_law_other" = some (some (.ref f31))) (l31 : K.lookup f31 = some ⟨oc31, od31, .func (PySem.W.fnOf "_law_other" "_law_other" (defArgs (top 31)) (defBody (top 31)) (defScope (top 31)) .none kV31 dc31 pm31 an31 cd31 ct31), sl31⟩) (c31 : PySem.W.codeIn K cd31 "_law_other" = true) (k31 : PySem.W.keepIn K (.ref f31) = true) (a32 : PySem.W.nsIn K mainGlobals "_law_apart" = some (some (.ref f32))) (l32 : K.lookup f32 = some ⟨oc32, od32, .func (PySem.W.fnOf "_law_apart" "_law_apart" (defArgs (top 32)) (defBody (top 32)) (defScope (top 32)) .none kV32 dc32 pm32 an32 cd32 ct32), sl32⟩) (c32 : PySem.W.codeIn K cd32 "_law_apart" = true) (k32 : PySem.W.keepIn K (.ref f32) = true) (a33 : PySem.W.nsIn K mainGlobals "_law_is_between" = some (some (.ref f33))) (l33 : K.lookup f33 = some ⟨oc33, od33, .func (PySem.W.fnOf "_law_is_between" "_law_is_between" (defArgs (top 33)) (defBody (top 33)) (defScope (top 33)) .none kV33 dc33 pm33 an33 cd33 ct33), sl33⟩) (c33 : PySem.W.codeIn K cd33 "_law_is_between" = true) (k33 : PySem.W.keepIn K (.ref f33) = true) (a34 : PySem.W.nsIn K mainGlobals "_law_are_right" = some (some (.ref f34))) (l34 : K.lookup f34 = some ⟨oc34, od34, .func (PySem.W.fnOf "_law_are_right" "_law_are_right" (defArgs (top 34)) (defBody (top 34)) (defScope (top 34)) .none kV34 dc34 pm34 an34 cd34 ct34), sl34⟩) (c34 : PySem.W.codeIn K cd34 "_law_are_right" = true) (k34 : PySem.W.keepIn K (.ref f34) = true) (a35 : PySem.W.nsIn K mainGlobals "law" = some (some (.ref f35))) (l35 : K.lookup f35 = some ⟨oc35, od35, .func (PySem.W.fnOf "law" "law" (defArgs (top 35)) (defBody (top 35)) (defScope (top 35)) .none kV35 dc35 pm35 an35 cd35 ct35), sl35⟩) (c35 : PySem.W.codeIn K cd35 "law" = true) (k35 : PySem.W.keepIn K (.ref f35) = true)
    (z_abs : PySem.W.nsIn K mainGlobals "abs" = some none) (z_bool : PySem.W.nsIn K mainGlobals "bool" = some none) (z_int : PySem.W.nsIn K mainGlobals "int" = some none) (z_isinstance : PySem.W.nsIn K mainGlobals "isinstance" = some none) (z_len : PySem.W.nsIn K mainGlobals "len" = some none) (z_list : PySem.W.nsIn K mainGlobals "list" = some none) (z_max : PySem.W.nsIn K mainGlobals "max" = some none) (z_range : PySem.W.nsIn K mainGlobals "range" = some none) (z_repr : PySem.W.nsIn K mainGlobals "repr" = some none) (z_tuple : PySem.W.nsIn K mainGlobals "tuple" = some none) (z_isqrt : PySem.W.nsIn K mainGlobals "isqrt" = some (some (.builtin "math.isqrt"))) :
    ∃ fd : FuncData, (∀ (s : Shared) (u : Value), BindsTo s fd ⟨[u], []⟩ [("_law_script", u)]) ∧ ∀ base : Heap, K.In base → base.Ns mainGlobals mg → FnG l.prog w K mg base 6 fa fd ["_law_script"] (spLaw K) := by
  have e := hfa.symm.trans (PySem.W.mg_of X G a35)
  cases e
  have bt : Bt mg := ⟨PySem.W.mg_none_of X G z_abs, PySem.W.mg_none_of X G z_bool, PySem.W.mg_none_of X G z_int, PySem.W.mg_none_of X G z_isinstance, PySem.W.mg_none_of X G z_len, PySem.W.mg_none_of X G z_list, PySem.W.mg_none_of X G z_max, PySem.W.mg_none_of X G z_range, PySem.W.mg_none_of X G z_repr, PySem.W.mg_none_of X G z_tuple, PySem.W.mg_of X G z_isqrt⟩
  have F5 := fun_mk (st := top 5) l5 c5 k5
  have F6 := fun_mk (st := top 6) l6 c6 k6
  have F7 := fun_mk (st := top 7) l7 c7 k7
  have F8 := fun_mk (st := top 8) l8 c8 k8
  have F9 := fun_mk (st := top 9) l9 c9 k9
  have F10 := fun_mk (st := top 10) l10 c10 k10
  have F11 := fun_mk (st := top 11) l11 c11 k11
  have F12 := fun_mk (st := top 12) l12 c12 k12
  have F13 := fun_mk (st := top 13) l13 c13 k13
  have F15 := fun_mk (st := top 15) l15 c15 k15
  have F16 := fun_mk (st := top 16) l16 c16 k16
  have F17 := fun_mk (st := top 17) l17 c17 k17
  have F18 := fun_mk (st := top 18) l18 c18 k18
  have F19 := fun_mk (st := top 19) l19 c19 k19
  have F20 := fun_mk (st := top 20) l20 c20 k20
  have F21 := fun_mk (st := top 21) l21 c21 k21
  have F23 := fun_mk (st := top 23) l23 c23 k23
  have F24 := fun_mk (st := top 24) l24 c24 k24
  have F25 := fun_mk (st := top 25) l25 c25 k25
  have F26 := fun_mk (st := top 26) l26 c26 k26
  have F27 := fun_mk (st := top 27) l27 c27 k27
  have F28 := fun_mk (st := top 28) l28 c28 k28
  have F29 := fun_mk (st := top 29) l29 c29 k29
  have F30 := fun_mk (st := top 30) l30 c30 k30
  have F31 := fun_mk (st := top 31) l31 c31 k31
  have F32 := fun_mk (st := top 32) l32 c32 k32
  have F33 := fun_mk (st := top 33) l33 c33 k33
  have F34 := fun_mk (st := top 34) l34 c34 k34
  have F35 := fun_mk (st := top 35) l35 c35 k35
  refine ⟨PySem.W.fnOf "law" "law" (defArgs (top 35)) (defBody (top 35)) (defScope (top 35)) .none kV35 dc35 pm35 an35 cd35 ct35, fun s v => .of_eq rfl, fun base _ _ => ?_⟩
  have O__law_draw := ok__law_draw (P := l.prog) (w := w) (base := base) bt (PySem.W.mg_of X G a24) F24
  have O_is_integer := ok_is_integer (P := l.prog) (w := w) (base := base) bt (PySem.W.mg_of X G a5) F5 
  have O_pair_sign := ok_pair_sign (P := l.prog) (w := w) (base := base) bt (PySem.W.mg_of X G a7) F7 
  have O_negative := ok_negative (P := l.prog) (w := w) (base := base) bt (PySem.W.mg_of X G a10) F10 
  have O_is_whole_number := ok_is_whole_number (P := l.prog) (w := w) (base := base) bt (PySem.W.mg_of X G a11) F11 
  have O_floor_integer := ok_floor_integer (P := l.prog) (w := w) (base := base) bt (PySem.W.mg_of X G a12) F12 
  have O__law_sign := ok__law_sign (P := l.prog) (w := w) (base := base) bt (PySem.W.mg_of X G a27) F27 
  have O__law_same := ok__law_same (P := l.prog) (w := w) (base := base) bt (PySem.W.mg_of X G a28) F28 
  have O_is_number := ok_is_number (P := l.prog) (w := w) (base := base) bt (PySem.W.mg_of X G a6) F6 O_is_integer
  have O_sign_of := ok_sign_of (P := l.prog) (w := w) (base := base) bt (PySem.W.mg_of X G a8) F8 O_pair_sign
  have O_compared := ok_compared (P := l.prog) (w := w) (base := base) bt (PySem.W.mg_of X G a9) F9 O_pair_sign
  have O_ceiling_integer := ok_ceiling_integer (P := l.prog) (w := w) (base := base) bt (PySem.W.mg_of X G a13) F13 O_floor_integer O_negative
  have O__law_pick := ok__law_pick (P := l.prog) (w := w) (base := base) bt (PySem.W.mg_of X G a25) F25 O__law_draw
  have O__law_integer := ok__law_integer (P := l.prog) (w := w) (base := base) bt (PySem.W.mg_of X G a26) F26 O__law_draw
  have O__law_thin := ok__law_thin (P := l.prog) (w := w) (base := base) bt (PySem.W.mg_of X G a29) F29 O__law_draw
  have O__law_apart := ok__law_apart (P := l.prog) (w := w) (base := base) bt (PySem.W.mg_of X G a32) F32 O__law_sign
  have O_need_numbers := ok_need_numbers (P := l.prog) (w := w) (base := base) bt (PySem.W.mg_of X G a15) F15 O_is_number
  have O__law_golden := ok__law_golden (P := l.prog) (w := w) (base := base) bt (PySem.W.mg_of X G a30) F30 O__law_pick O__law_draw O__law_thin O__law_integer
  have O__law_is_between := ok__law_is_between (P := l.prog) (w := w) (base := base) bt (PySem.W.mg_of X G a33) F33 O__law_apart
  have O_sign := ok_sign (P := l.prog) (w := w) (base := base) bt (PySem.W.mg_of X G a16) F16 O_need_numbers O_sign_of
  have O_is_below := ok_is_below (P := l.prog) (w := w) (base := base) bt (PySem.W.mg_of X G a17) F17 O_need_numbers O_compared
  have O_are_equal := ok_are_equal (P := l.prog) (w := w) (base := base) bt (PySem.W.mg_of X G a18) F18 O_need_numbers O_compared
  have O_integer_below := ok_integer_below (P := l.prog) (w := w) (base := base) bt (PySem.W.mg_of X G a19) F19 O_need_numbers O_floor_integer
  have O_integer_above := ok_integer_above (P := l.prog) (w := w) (base := base) bt (PySem.W.mg_of X G a20) F20 O_need_numbers O_ceiling_integer
  have O_is_whole := ok_is_whole (P := l.prog) (w := w) (base := base) bt (PySem.W.mg_of X G a21) F21 O_need_numbers O_is_whole_number
  have O__law_other := ok__law_other (P := l.prog) (w := w) (base := base) bt (PySem.W.mg_of X G a31) F31 O__law_golden O__law_draw O__law_thin
  have O__law_are_right := ok__law_are_right (P := l.prog) (w := w) (base := base) bt (PySem.W.mg_of X G a34) F34 O__law_is_between O__law_sign O__law_apart O__law_same O_integer_below O_integer_above O_sign O_is_below O_are_equal O_is_whole
  exact ok_law bt (PySem.W.mg_of X G a23) F23 F35 O__law_golden O__law_draw O__law_are_right O__law_other
end K07

open PySem PySem.W PyProof.Rows in
set_option maxRecDepth 100000 in
set_option maxHeartbeats 0 in
theorem PySem.Challenge.cw_nevertwice_k07_signs_order_and_integers_holds : PySem.Challenge.rw_nevertwice_k07_signs_order_and_integers.Holds := by
  w_on; o_law; k_head; (case hw => w_witness2)
  k_fill
  refine ND.walkG (k := 6) (x := "_law_script") (l := PySem.Challenge.rw_nevertwice_k07_signs_order_and_integers) rfl rfl ⟨rfl, by decide, by decide⟩ (fun w h Y => PySem.W.kIn_of Y) ?F
  case F =>
    intro w mg fa h KX G hmg
    refine' K07.all_ok KX G hmg ?a5 ?l5 ?c5 ?k5 ?a6 ?l6 ?c6 ?k6 ?a7 ?l7 ?c7 ?k7 ?a8 ?l8 ?c8 ?k8 ?a9 ?l9 ?c9 ?k9 ?a10 ?l10 ?c10 ?k10 ?a11 ?l11 ?c11 ?k11 ?a12 ?l12 ?c12 ?k12 ?a13 ?l13 ?c13 ?k13 ?a15 ?l15 ?c15 ?k15 ?a16 ?l16 ?c16 ?k16 ?a17 ?l17 ?c17 ?k17 ?a18 ?l18 ?c18 ?k18 ?a19 ?l19 ?c19 ?k19 ?a20 ?l20 ?c20 ?k20 ?a21 ?l21 ?c21 ?k21 ?a23 ?l23 ?c23 ?k23 ?a24 ?l24 ?c24 ?k24 ?a25 ?l25 ?c25 ?k25 ?a26 ?l26 ?c26 ?k26 ?a27 ?l27 ?c27 ?k27 ?a28 ?l28 ?c28 ?k28 ?a29 ?l29 ?c29 ?k29 ?a30 ?l30 ?c30 ?k30 ?a31 ?l31 ?c31 ?k31 ?a32 ?l32 ?c32 ?k32 ?a33 ?l33 ?c33 ?k33 ?a34 ?l34 ?c34 ?k34 ?a35 ?l35 ?c35 ?k35 ?z_abs ?z_bool ?z_int ?z_isinstance ?z_len ?z_list ?z_max ?z_range ?z_repr ?z_tuple ?z_isqrt
    (case a5 => k_is)
    (case l5 => k_is)
    (case c5 => k_is)
    (case k5 => k_is)
    (case a6 => k_is)
    (case l6 => k_is)
    (case c6 => k_is)
    (case k6 => k_is)
    (case a7 => k_is)
    (case l7 => k_is)
    (case c7 => k_is)
    (case k7 => k_is)
    (case a8 => k_is)
    (case l8 => k_is)
    (case c8 => k_is)
    (case k8 => k_is)
    (case a9 => k_is)
    (case l9 => k_is)
    (case c9 => k_is)
    (case k9 => k_is)
    (case a10 => k_is)
    (case l10 => k_is)
    (case c10 => k_is)
    (case k10 => k_is)
    (case a11 => k_is)
    (case l11 => k_is)
    (case c11 => k_is)
    (case k11 => k_is)
    (case a12 => k_is)
    (case l12 => k_is)
    (case c12 => k_is)
    (case k12 => k_is)
    (case a13 => k_is)
    (case l13 => k_is)
    (case c13 => k_is)
    (case k13 => k_is)
    (case a15 => k_is)
    (case l15 => k_is)
    (case c15 => k_is)
    (case k15 => k_is)
    (case a16 => k_is)
    (case l16 => k_is)
    (case c16 => k_is)
    (case k16 => k_is)
    (case a17 => k_is)
    (case l17 => k_is)
    (case c17 => k_is)
    (case k17 => k_is)
    (case a18 => k_is)
    (case l18 => k_is)
    (case c18 => k_is)
    (case k18 => k_is)
    (case a19 => k_is)
    (case l19 => k_is)
    (case c19 => k_is)
    (case k19 => k_is)
    (case a20 => k_is)
    (case l20 => k_is)
    (case c20 => k_is)
    (case k20 => k_is)
    (case a21 => k_is)
    (case l21 => k_is)
    (case c21 => k_is)
    (case k21 => k_is)
    (case a23 => k_is)
    (case l23 => k_is)
    (case c23 => k_is)
    (case k23 => k_is)
    (case a24 => k_is)
    (case l24 => k_is)
    (case c24 => k_is)
    (case k24 => k_is)
    (case a25 => k_is)
    (case l25 => k_is)
    (case c25 => k_is)
    (case k25 => k_is)
    (case a26 => k_is)
    (case l26 => k_is)
    (case c26 => k_is)
    (case k26 => k_is)
    (case a27 => k_is)
    (case l27 => k_is)
    (case c27 => k_is)
    (case k27 => k_is)
    (case a28 => k_is)
    (case l28 => k_is)
    (case c28 => k_is)
    (case k28 => k_is)
    (case a29 => k_is)
    (case l29 => k_is)
    (case c29 => k_is)
    (case k29 => k_is)
    (case a30 => k_is)
    (case l30 => k_is)
    (case c30 => k_is)
    (case k30 => k_is)
    (case a31 => k_is)
    (case l31 => k_is)
    (case c31 => k_is)
    (case k31 => k_is)
    (case a32 => k_is)
    (case l32 => k_is)
    (case c32 => k_is)
    (case k32 => k_is)
    (case a33 => k_is)
    (case l33 => k_is)
    (case c33 => k_is)
    (case k33 => k_is)
    (case a34 => k_is)
    (case l34 => k_is)
    (case c34 => k_is)
    (case k34 => k_is)
    (case a35 => k_is)
    (case l35 => k_is)
    (case c35 => k_is)
    (case k35 => k_is)
    (case z_abs => k_is)
    (case z_bool => k_is)
    (case z_int => k_is)
    (case z_isinstance => k_is)
    (case z_len => k_is)
    (case z_list => k_is)
    (case z_max => k_is)
    (case z_range => k_is)
    (case z_repr => k_is)
    (case z_tuple => k_is)
    (case z_isqrt => k_is)
