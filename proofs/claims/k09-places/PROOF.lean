import PyProof.Rows.All
import Wide.All
import OpenK.AllK
import Wide.FinOn
import HandS.Base
import HandS.Call
import HandS.List
import HandS.Comp
import HandS.Ends
import HandS.Exc
import HandS.TryOnly
import HandS.ExcOwn
import HandS.Words
import HandS.Iter
import HandS.Walk
import HandS.Wide
import HandS.Gcd
import HandS.IsInst
import HandS.CallSlots
import HandS.WordsExc
import HandS.Text
import HandS.Deep
import HandS.Flow
import HandS.StrMore
import KE.SortData
import HandS.Defaults
import HandS.HeadEnd
import HandS.Head0
import HandS.Head1
import HandS.Head2
import HandS.HeadHook1
import HandS.HeadHook2
import KE.GoesEnum
import HandS.Head3
import PySem.Challenge.RW_cushioned_k09_places_and_headings
set_option Elab.async false
section
set_option linter.all false
set_option maxRecDepth 100000
set_option maxHeartbeats 4000000
namespace DL
open PySem PySem.Spec L2

/-! ## data -/
inductive D where
  | non | bl (b : Bool) | int (i : Int) | str (x : Str)
  | tup (ds : List D) | lst (ds : List D) | kl (ds : List D)
  | ins (C : Str) (ns : List Str) (ds : List D)
  | dk (ks : List Key) (ds : List D)
  | dt (ks : List (List Key)) (ds : List D)

/-- the surroundings: the written part, where each class stands -/
structure Am where
  K : PySem.W.Frag
  cl : Str → Addr

mutual
def Rep (E : Am) (F : Hp) : D → V → Prop
  | .non, v => v = .non
  | .bl b, v => v = .bl b
  | .int i, v => v = .int i
  | .str x, v => v = .str x
  | .tup ds, v => ∃ a vs, v = .ref a ∧ SqT E.K F a vs ∧ RepL E F ds vs
  | .lst ds, v => ∃ a vs, v = .ref a ∧ F a = some (.lst vs) ∧ RepL E F ds vs
  | .kl ds, v => ∃ a vs, v = .ref a ∧ SqL E.K F a vs ∧ RepL E F ds vs
  | .ins C ns ds, v => ∃ a dx vs, v = .ref a ∧ F a = some (.ins (E.cl C) dx (ns.zip vs)) ∧ ns.length = ds.length ∧ RepL E F ds vs
  | .dk ks ds, v => ∃ a vs, v = .ref a ∧ F a = some (.dK (ks.zip vs)) ∧ ks.length = ds.length ∧ RepL E F ds vs
  | .dt ks ds, v => ∃ a vs, v = .ref a ∧ F a = some (.dT (ks.zip vs)) ∧ ks.length = ds.length ∧ RepL E F ds vs
def RepL (E : Am) (F : Hp) : List D → List V → Prop
  | [], vs => vs = []
  | d :: ds, vs => ∃ v r, vs = v :: r ∧ Rep E F d v ∧ RepL E F ds r
end

theorem sqT_mono {K : PySem.W.Frag} {H H' : Hp} {a : Addr} {xs : List V} (e : Same H H') (h : SqT K H a xs) : SqT K H' a xs := by
  rcases h with (h | ⟨o, h⟩) | h
  · exact .inl (.inl (e _ _ h))
  · exact .inl (.inr ⟨o, e _ _ h⟩)
  · exact .inr h
theorem sqL_mono {K : PySem.W.Frag} {H H' : Hp} {a : Addr} {xs : List V} (e : Same H H') (h : SqL K H a xs) : SqL K H' a xs := e.seq h

mutual
theorem Rep.mono {E : Am} {F F' : Hp} (e : Same F F') : ∀ (d : D) (v : V), Rep E F d v → Rep E F' d v
  | .non, v, h => h
  | .bl _, v, h => h
  | .int _, v, h => h
  | .str _, v, h => h
  | .tup ds, v, h => by
    obtain ⟨a, vs, h1, h2, h3⟩ := h
    exact ⟨a, vs, h1, sqT_mono e h2, RepL.mono e ds vs h3⟩
  | .lst ds, v, h => by
    obtain ⟨a, vs, h1, h2, h3⟩ := h
    exact ⟨a, vs, h1, e _ _ h2, RepL.mono e ds vs h3⟩
  | .kl ds, v, h => by
    obtain ⟨a, vs, h1, h2, h3⟩ := h
    exact ⟨a, vs, h1, sqL_mono e h2, RepL.mono e ds vs h3⟩
  | .ins C ns ds, v, h => by
    obtain ⟨a, dx, vs, h1, h2, h3, h4⟩ := h
    exact ⟨a, dx, vs, h1, e _ _ h2, h3, RepL.mono e ds vs h4⟩
  | .dk ks ds, v, h => by
    obtain ⟨a, vs, h1, h2, h3, h4⟩ := h
    exact ⟨a, vs, h1, e _ _ h2, h3, RepL.mono e ds vs h4⟩
  | .dt ks ds, v, h => by
    obtain ⟨a, vs, h1, h2, h3, h4⟩ := h
    exact ⟨a, vs, h1, e _ _ h2, h3, RepL.mono e ds vs h4⟩
theorem RepL.mono {E : Am} {F F' : Hp} (e : Same F F') : ∀ (ds : List D) (vs : List V), RepL E F ds vs → RepL E F' ds vs
  | [], vs, h => h
  | d :: ds, vs, h => by
    obtain ⟨v, r, h1, h2, h3⟩ := h
    exact ⟨v, r, h1, Rep.mono e d v h2, RepL.mono e ds r h3⟩
end
theorem RepL.nil {E : Am} {F : Hp} : RepL E F [] [] := rfl
theorem RepL.cons {E : Am} {F : Hp} {d : D} {ds : List D} {v : V} {vs : List V} (h : Rep E F d v) (t : RepL E F ds vs) : RepL E F (d :: ds) (v :: vs) := ⟨v, vs, rfl, h, t⟩
theorem RepL.len {E : Am} {F : Hp} : ∀ {ds : List D} {vs : List V}, RepL E F ds vs → ds.length = vs.length
  | [], vs, h => by cases h; rfl
  | d :: ds, vs, h => by
    obtain ⟨v, r, rfl, _, t⟩ := h
    rw [List.length_cons, List.length_cons, RepL.len t]
theorem RepL.get {E : Am} {F : Hp} : ∀ {ds : List D} {vs : List V} {i : Nat} {d : D}, RepL E F ds vs → ds[i]? = some d → ∃ v, vs[i]? = some v ∧ Rep E F d v
  | [], vs, i, d, _, e => by simp at e
  | x :: ds, vs, 0, d, h, e => by
    obtain ⟨v, r, rfl, h1, _⟩ := h
    simp at e; subst e
    exact ⟨v, rfl, h1⟩
  | x :: ds, vs, i + 1, d, h, e => by
    obtain ⟨v, r, rfl, _, t⟩ := h
    obtain ⟨u, e1, e2⟩ := RepL.get (i := i) t (by simpa using e)
    exact ⟨u, by simpa using e1, e2⟩
theorem RepL.getV {E : Am} {F : Hp} {ds : List D} {vs : List V} {i : Nat} {v : V} (h : RepL E F ds vs) (e : vs[i]? = some v) : ∃ d, ds[i]? = some d ∧ Rep E F d v := by
  have hl := h.len
  have hi : i < vs.length := (List.getElem?_eq_some_iff.mp e).1
  obtain ⟨u, e1, e2⟩ := h.get (i := i) (d := ds[i]'(by omega)) (by simp [show i < ds.length by omega])
  rw [e] at e1; cases e1
  exact ⟨_, by simp [show i < ds.length by omega], e2⟩
theorem RepL.append {E : Am} {F : Hp} : ∀ {ds es : List D} {vs us : List V}, RepL E F ds vs → RepL E F es us → RepL E F (ds ++ es) (vs ++ us)
  | [], es, vs, us, h, t => by cases h; exact t
  | d :: ds, es, vs, us, h, t => by
    obtain ⟨v, r, rfl, h1, h2⟩ := h
    exact .cons h1 (RepL.append h2 t)
theorem RepL.take {E : Am} {F : Hp} : ∀ {ds : List D} {vs : List V} (n : Nat), RepL E F ds vs → RepL E F (ds.take n) (vs.take n)
  | ds, vs, 0, h => by simp; rfl
  | [], vs, n + 1, h => by cases h; exact rfl
  | d :: ds, vs, n + 1, h => by
    obtain ⟨v, r, rfl, h1, h2⟩ := h
    exact .cons h1 (RepL.take n h2)
theorem RepL.drop {E : Am} {F : Hp} : ∀ {ds : List D} {vs : List V} (n : Nat), RepL E F ds vs → RepL E F (ds.drop n) (vs.drop n)
  | ds, vs, 0, h => h
  | [], vs, n + 1, h => by cases h; exact rfl
  | d :: ds, vs, n + 1, h => by
    obtain ⟨v, r, rfl, h1, h2⟩ := h
    exact RepL.drop n h2
theorem RepL.set {E : Am} {F : Hp} {d : D} {v : V} (hd : Rep E F d v) : ∀ {ds : List D} {vs : List V} (n : Nat), RepL E F ds vs → RepL E F (ds.set n d) (vs.set n v)
  | [], vs, n, h => by cases h; exact rfl
  | x :: ds, vs, 0, h => by
    obtain ⟨u, r, rfl, h1, h2⟩ := h
    exact .cons hd h2
  | x :: ds, vs, n + 1, h => by
    obtain ⟨u, r, rfl, h1, h2⟩ := h
    exact .cons h1 (RepL.set hd n h2)
theorem RepL.nilL {E : Am} {F : Hp} {vs : List V} (h : RepL E F [] vs) : vs = [] := h

/-! ## heaps that grow: the frozen part F, the whole H -/
structure Ext (F H F' H' : Hp) : Prop where
  f : Same F F'
  h : Same H H'
  fh : Same F' H'
  nf : ∀ l, H l ≠ none → F' l = F l
theorem Ext.refl {F H : Hp} (s : Same F H) : Ext F H F H := ⟨Same.refl F, Same.refl H, s, fun _ _ => rfl⟩
theorem Ext.trans {F H F1 H1 F2 H2 : Hp} (a : Ext F H F1 H1) (b : Ext F1 H1 F2 H2) : Ext F H F2 H2 :=
  ⟨a.f.trans b.f, a.h.trans b.h, b.fh, fun l hl => by
    have h1 : H1 l ≠ none := fun e => hl (a.h.free e)
    rw [b.nf l h1, a.nf l hl]⟩
theorem same_upd {F H : Hp} {p : Addr} {o : HO} (s : Same F H) (hp : H p = none) : Same F (upd H p o) := fun b u e => by
  rw [upd_ne (ne_of_none (s b u e) hp)]; exact s b u e
theorem same_upd_self {H : Hp} {p : Addr} {o : HO} (hp : H p = none) : Same H (upd H p o) := same_upd (Same.refl H) hp
/-- a new object, frozen at once -/
theorem Ext.new {F H : Hp} {p : Addr} {o : HO} (s : Same F H) (hp : H p = none) : Ext F H (upd F p o) (upd H p o) :=
  ⟨same_upd_self (s.free hp), same_upd_self hp, fun b u e => by
    by_cases hb : b = p
    · subst hb; rw [upd_same] at e ⊢; exact e
    · rw [upd_ne hb] at e ⊢; exact s b u e,
   fun l hl => by
    have : l ≠ p := fun z => hl (by rw [z]; exact hp)
    rw [upd_ne this]⟩
/-- a new object, not frozen -/
theorem Ext.newH {F H : Hp} {p : Addr} {o : HO} (s : Same F H) (hp : H p = none) : Ext F H F (upd H p o) :=
  ⟨Same.refl F, same_upd_self hp, same_upd s hp, fun _ _ => rfl⟩
/-- an object that is there and not frozen gets frozen -/
theorem Ext.frz {B F0 F H : Hp} {p : Addr} {o : HO} (x : Ext F0 B F H) (h : H p = some o) (hf : F p = none) (hb : B p = none) : Ext F0 B (upd F p o) H :=
  ⟨x.f.trans (same_upd_self hf), x.h, fun b u e => by
    by_cases q : b = p
    · subst q; rw [upd_same] at e; rw [h]; exact e
    · rw [upd_ne q] at e; exact x.fh b u e,
   fun l hl => by
    have : l ≠ p := fun z => hl (by rw [z]; exact hb)
    rw [upd_ne this]; exact x.nf l hl⟩
/-- an own object changes -/
theorem Ext.wr {B F0 F H : Hp} {p : Addr} {o : HO} (x : Ext F0 B F H) (hf : F p = none) (hb : B p = none) : Ext F0 B F (upd H p o) :=
  ⟨x.f, fun b u e => by rw [upd_ne (ne_of_none e hb)]; exact x.h b u e, fun b u e => by rw [upd_ne (ne_of_none e hf)]; exact x.fh b u e, x.nf⟩

/-! ## own objects and slots -/
def OwnR (E : Am) (F : Hp) : D → HO → Prop
  | .lst ds, ho => ∃ vs, ho = .lst vs ∧ RepL E F ds vs
  | .ins C ns ds, ho => ∃ dx vs, ho = .ins (E.cl C) dx (ns.zip vs) ∧ ns.length = ds.length ∧ RepL E F ds vs
  | .dk ks ds, ho => ∃ vs, ho = .dK (ks.zip vs) ∧ ks.length = ds.length ∧ RepL E F ds vs
  | .dt ks ds, ho => ∃ vs, ho = .dT (ks.zip vs) ∧ ks.length = ds.length ∧ RepL E F ds vs
  | _, _ => False
theorem OwnR.mono {E : Am} {F F' : Hp} (e : Same F F') {d : D} {ho : HO} (h : OwnR E F d ho) : OwnR E F' d ho := by
  cases d with
  | lst ds => obtain ⟨vs, h1, h2⟩ := h; exact ⟨vs, h1, RepL.mono e _ _ h2⟩
  | ins C ns ds => obtain ⟨dx, vs, h1, h2, h3⟩ := h; exact ⟨dx, vs, h1, h2, RepL.mono e _ _ h3⟩
  | dk ks ds => obtain ⟨vs, h1, h2, h3⟩ := h; exact ⟨vs, h1, h2, RepL.mono e _ _ h3⟩
  | dt ks ds => obtain ⟨vs, h1, h2, h3⟩ := h; exact ⟨vs, h1, h2, RepL.mono e _ _ h3⟩
  | _ => exact h
theorem OwnR.rep {E : Am} {F : Hp} {d : D} {ho : HO} {l : Addr} (h : OwnR E F d ho) (e : F l = some ho) : Rep E F d (.ref l) := by
  cases d with
  | lst ds => obtain ⟨vs, h1, h2⟩ := h; subst h1; exact ⟨l, vs, rfl, e, h2⟩
  | ins C ns ds => obtain ⟨dx, vs, h1, h2, h3⟩ := h; subst h1; exact ⟨l, dx, vs, rfl, e, h2, h3⟩
  | dk ks ds => obtain ⟨vs, h1, h2, h3⟩ := h; subst h1; exact ⟨l, vs, rfl, e, h2, h3⟩
  | dt ks ds => obtain ⟨vs, h1, h2, h3⟩ := h; subst h1; exact ⟨l, vs, rfl, e, h2, h3⟩
  | _ => exact h.elim

/-- what a slot is known to hold -/
inductive EV where
  | unb | dat (d : D) | own (d : D) | pin (v : V)
abbrev Ev := List EV
structure StR (E : Am) (B F H : Hp) (σ : L2.St) (ρ : Ev) : Prop where
  len : σ.length = ρ.length
  dat : ∀ (i : Nat) (d : D), ρ[i]? = some (.dat d) → ∃ v, σ[i]? = some (some v) ∧ Rep E F d v
  own : ∀ (i : Nat) (d : D), ρ[i]? = some (.own d) → ∃ l ho, σ[i]? = some (some (.ref l)) ∧ H l = some ho ∧ F l = none ∧ B l = none ∧ OwnR E F d ho
  apart : ∀ (i j : Nat) (d d' : D) (l : Addr), i ≠ j → ρ[i]? = some (.own d) → ρ[j]? = some (.own d') → σ[i]? = some (some (.ref l)) → σ[j]? ≠ some (some (.ref l))
  pin : ∀ (i : Nat) (v : V), ρ[i]? = some (.pin v) → σ[i]? = some (some v)
theorem StR.mono {E : Am} {B F H F' H' : Hp} {σ : L2.St} {ρ : Ev} (s : StR E B F H σ ρ) (x : Ext F H F' H') : StR E B F' H' σ ρ :=
  ⟨s.len, fun i d e => let ⟨v, h1, h2⟩ := s.dat i d e; ⟨v, h1, Rep.mono x.f d v h2⟩,
   fun i d e => by
    obtain ⟨l, ho, h1, h2, h3, h4, h5⟩ := s.own i d e
    exact ⟨l, ho, h1, x.h _ _ h2, by rw [x.nf l (by rw [h2]; simp)]; exact h3, h4, h5.mono x.f⟩,
   s.apart, s.pin⟩
/-- set a slot to a datum -/
theorem StR.setD {E : Am} {B F H : Hp} {σ : L2.St} {ρ : Ev} (s : StR E B F H σ ρ) {i : Nat} {d : D} {v : V} (h : Rep E F d v) : StR E B F H (σ.set i (some v)) (ρ.set i (.dat d)) := by
  refine ⟨by simp [s.len], fun j e hj => ?_, fun j e hj => ?_, fun j k e e' l hjk hj hk hl => ?_, fun j e hj => ?_⟩
  · by_cases q : i = j
    · subst q
      by_cases hi : i < ρ.length
      · rw [List.getElem?_set_self hi] at hj
        cases hj
        exact ⟨v, by rw [List.getElem?_set_self (by rw [s.len]; exact hi)], h⟩
      · rw [List.getElem?_eq_none (by simpa using hi)] at hj; cases hj
    · rw [List.getElem?_set_ne q] at hj ⊢
      exact s.dat j e hj
  · by_cases q : i = j
    · subst q
      by_cases hi : i < ρ.length
      · rw [List.getElem?_set_self hi] at hj; cases hj
      · rw [List.getElem?_eq_none (by simpa using hi)] at hj; cases hj
    · rw [List.getElem?_set_ne q] at hj ⊢
      exact s.own j e hj
  · have qj : i ≠ j := fun z => by
      subst z
      by_cases hi : i < ρ.length
      · rw [List.getElem?_set_self hi] at hj; cases hj
      · rw [List.getElem?_eq_none (by simpa using hi)] at hj; cases hj
    have qk : i ≠ k := fun z => by
      subst z
      by_cases hi : i < ρ.length
      · rw [List.getElem?_set_self hi] at hk; cases hk
      · rw [List.getElem?_eq_none (by simpa using hi)] at hk; cases hk
    rw [List.getElem?_set_ne qj] at hj hl
    rw [List.getElem?_set_ne qk] at hk ⊢
    exact s.apart j k e e' l hjk hj hk hl
  · by_cases q : i = j
    · subst q
      by_cases hi : i < ρ.length
      · rw [List.getElem?_set_self hi] at hj; cases hj
      · rw [List.getElem?_eq_none (by simpa using hi)] at hj; cases hj
    · rw [List.getElem?_set_ne q] at hj ⊢
      exact s.pin j e hj
/-- set a slot to a new own object -/
theorem StR.setO {E : Am} {B F H : Hp} {σ : L2.St} {ρ : Ev} (s : StR E B F H σ ρ) {i : Nat} {d : D} {l : Addr} {ho : HO} (hl : H l = some ho) (hf : F l = none) (hb : B l = none) (h : OwnR E F d ho)
    (new : ∀ j e, ρ[j]? = some (.own e) → j ≠ i → σ[j]? ≠ some (some (.ref l))) : StR E B F H (σ.set i (some (.ref l))) (ρ.set i (.own d)) := by
  have at_ : ∀ {j : Nat} {e : EV}, (ρ.set i (.own d))[j]? = some e → (j = i ∧ i < ρ.length ∧ e = .own d) ∨ (j ≠ i ∧ ρ[j]? = some e) := fun {j e} hj => by
    by_cases q : i = j
    · subst q
      by_cases hi : i < ρ.length
      · rw [List.getElem?_set_self hi] at hj; cases hj; exact .inl ⟨rfl, hi, rfl⟩
      · rw [List.getElem?_eq_none (by simpa using hi)] at hj; cases hj
    · rw [List.getElem?_set_ne q] at hj; exact .inr ⟨Ne.symm q, hj⟩
  refine ⟨by simp [s.len], fun j e hj => ?_, fun j e hj => ?_, fun j k e e' l' hjk hj hk hl' => ?_, fun j e hj => ?_⟩
  · rcases at_ hj with ⟨_, _, z⟩ | ⟨q, z⟩
    · cases z
    · rw [List.getElem?_set_ne (Ne.symm q)]; exact s.dat j e z
  · rcases at_ hj with ⟨q, hi, z⟩ | ⟨q, z⟩
    · subst q; cases z
      exact ⟨l, ho, by rw [List.getElem?_set_self (by rw [s.len]; exact hi)], hl, hf, hb, h⟩
    · rw [List.getElem?_set_ne (Ne.symm q)]; exact s.own j e z
  · rcases at_ hj with ⟨q, hi, z⟩ | ⟨q, z⟩
    · subst q
      rw [List.getElem?_set_self (by rw [s.len]; exact hi)] at hl'
      cases hl'
      rcases at_ hk with ⟨q2, _, _⟩ | ⟨q2, z2⟩
      · exact absurd q2.symm hjk
      · rw [List.getElem?_set_ne (Ne.symm q2)]
        exact new k e' z2 q2
    · rw [List.getElem?_set_ne (Ne.symm q)] at hl'
      rcases at_ hk with ⟨q2, hi, _⟩ | ⟨q2, z2⟩
      · subst q2
        rw [List.getElem?_set_self (by rw [s.len]; exact hi)]
        intro w
        cases w
        exact new j e z q hl'
      · rw [List.getElem?_set_ne (Ne.symm q2)]
        exact s.apart j k e e' l' hjk z z2 hl'
  · rcases at_ hj with ⟨_, _, z⟩ | ⟨q, z⟩
    · cases z
    · rw [List.getElem?_set_ne (Ne.symm q)]; exact s.pin j e z
/-- forget a slot -/
theorem StR.setU {E : Am} {B F H : Hp} {σ : L2.St} {ρ : Ev} (s : StR E B F H σ ρ) {i : Nat} {o : Option V} : StR E B F H (σ.set i o) (ρ.set i .unb) := by
  have at_ : ∀ {j : Nat} {e : EV}, e ≠ .unb → (ρ.set i .unb)[j]? = some e → j ≠ i ∧ ρ[j]? = some e := fun {j e} ne hj => by
    by_cases q : i = j
    · subst q
      by_cases hi : i < ρ.length
      · rw [List.getElem?_set_self hi] at hj; cases hj; exact absurd rfl ne
      · rw [List.getElem?_eq_none (by simpa using hi)] at hj; cases hj
    · rw [List.getElem?_set_ne q] at hj; exact ⟨Ne.symm q, hj⟩
  refine ⟨by simp [s.len], fun j e hj => ?_, fun j e hj => ?_, fun j k e e' l' hjk hj hk hl' => ?_, fun j e hj => ?_⟩
  · obtain ⟨q, z⟩ := at_ (by simp) hj
    rw [List.getElem?_set_ne (Ne.symm q)]; exact s.dat j e z
  · obtain ⟨q, z⟩ := at_ (by simp) hj
    rw [List.getElem?_set_ne (Ne.symm q)]; exact s.own j e z
  · obtain ⟨q, z⟩ := at_ (by simp) hj
    obtain ⟨q2, z2⟩ := at_ (by simp) hk
    rw [List.getElem?_set_ne (Ne.symm q)] at hl'
    rw [List.getElem?_set_ne (Ne.symm q2)]
    exact s.apart j k e e' l' hjk z z2 hl'
  · obtain ⟨q, z⟩ := at_ (by simp) hj
    rw [List.getElem?_set_ne (Ne.symm q)]; exact s.pin j e z
/-- an own object becomes a datum -/
theorem StR.freeze {E : Am} {B F H : Hp} {σ : L2.St} {ρ : Ev} (s : StR E B F H σ ρ) {i : Nat} {d : D} (hi : ρ[i]? = some (.own d)) :
    ∃ l ho, H l = some ho ∧ F l = none ∧ B l = none ∧ StR E B (upd F l ho) H σ (ρ.set i (.dat d)) := by
  obtain ⟨l, ho, h1, h2, h3, h4, h5⟩ := s.own i d hi
  have sf : Same F (upd F l ho) := same_upd_self h3
  have hlt : i < ρ.length := (List.getElem?_eq_some_iff.mp hi).1
  refine ⟨l, ho, h2, h3, h4, by simp [s.len], fun j e hj => ?_, fun j e hj => ?_, fun j k e e' l' hjk hj hk hl' => ?_, fun j e hj => ?_⟩
  · by_cases q : i = j
    · subst q
      rw [List.getElem?_set_self hlt] at hj; cases hj
      exact ⟨_, h1, (h5.mono sf).rep upd_same⟩
    · rw [List.getElem?_set_ne q] at hj
      obtain ⟨v, e1, e2⟩ := s.dat j e hj
      exact ⟨v, e1, Rep.mono sf _ _ e2⟩
  · by_cases q : i = j
    · subst q
      rw [List.getElem?_set_self hlt] at hj; cases hj
    · rw [List.getElem?_set_ne q] at hj
      obtain ⟨l', ho', g1, g2, g3, g4, g5⟩ := s.own j e hj
      have ne : l' ≠ l := fun z => by subst z; exact s.apart i j d e l' q hi hj h1 g1
      exact ⟨l', ho', g1, g2, by rw [upd_ne ne]; exact g3, g4, g5.mono sf⟩
  · have qj : i ≠ j := fun z => by
      subst z; rw [List.getElem?_set_self hlt] at hj; cases hj
    have qk : i ≠ k := fun z => by
      subst z; rw [List.getElem?_set_self hlt] at hk; cases hk
    rw [List.getElem?_set_ne qj] at hj
    rw [List.getElem?_set_ne qk] at hk
    exact s.apart j k e e' l' hjk hj hk hl'
  · by_cases q : i = j
    · subst q
      rw [List.getElem?_set_self hlt] at hj; cases hj
    · rw [List.getElem?_set_ne q] at hj
      exact s.pin j e hj
/-- an own object is written -/
theorem StR.write {E : Am} {B F H : Hp} {σ : L2.St} {ρ : Ev} (s : StR E B F H σ ρ) {i : Nat} {d d' : D} {l : Addr} {ho' : HO} (hi : ρ[i]? = some (.own d)) (hs : σ[i]? = some (some (.ref l))) (hf : F l = none) (hb : B l = none) (h : OwnR E F d' ho') :
    StR E B F (upd H l ho') σ (ρ.set i (.own d')) := by
  have hlt : i < ρ.length := (List.getElem?_eq_some_iff.mp hi).1
  refine ⟨by simp [s.len], fun j e hj => ?_, fun j e hj => ?_, fun j k e e' l' hjk hj hk hl' => ?_, fun j e hj => ?_⟩
  · by_cases q : i = j
    · subst q; rw [List.getElem?_set_self hlt] at hj; cases hj
    · rw [List.getElem?_set_ne q] at hj; exact s.dat j e hj
  · by_cases q : i = j
    · subst q
      rw [List.getElem?_set_self hlt] at hj; cases hj
      exact ⟨l, ho', hs, upd_same, hf, hb, h⟩
    · rw [List.getElem?_set_ne q] at hj
      obtain ⟨l', ho2, g1, g2, g3, g4, g5⟩ := s.own j e hj
      have ne : l' ≠ l := fun z => by subst z; exact s.apart i j d e l' q hi hj hs g1
      exact ⟨l', ho2, g1, by rw [upd_ne ne]; exact g2, g3, g4, g5⟩
  · have oj : ∃ e1, ρ[j]? = some (.own e1) := by
      by_cases q : i = j
      · subst q; exact ⟨d, hi⟩
      · rw [List.getElem?_set_ne q] at hj; exact ⟨e, hj⟩
    have ok : ∃ e1, ρ[k]? = some (.own e1) := by
      by_cases q : i = k
      · subst q; exact ⟨d, hi⟩
      · rw [List.getElem?_set_ne q] at hk; exact ⟨e', hk⟩
    obtain ⟨e1, o1⟩ := oj
    obtain ⟨e2, o2⟩ := ok
    exact s.apart j k e1 e2 l' hjk o1 o2 hl'
  · by_cases q : i = j
    · subst q; rw [List.getElem?_set_self hlt] at hj; cases hj
    · rw [List.getElem?_set_ne q] at hj; exact s.pin j e hj

/-! ## results -/
inductive Rs (α : Type) where
  | ok (a : α) | err (c : Str) (x : Option (Str × D)) | no
@[simp] def Rs.bind {α β : Type} : Rs α → (α → Rs β) → Rs β
  | .ok a, f => f a
  | .err c x, _ => .err c x
  | .no, _ => .no
/-- an exception that flies -/
def ErrP (E : Am) (F H : Hp) (c : Str) (x : Option (Str × D)) (cls : Value) (dd : Option Addr) : Prop :=
  cls = .ref (E.cl c) ∧ match x with
    | none => dd = none
    | some (f, d) => ∃ a v, dd = some a ∧ H a = some (.xd [(f, v)]) ∧ Rep E F d v
/-- strict and loose values -/
def RepO (E : Am) (F H : Hp) (d : D) (v : V) : Prop := Rep E F d v ∨ ∃ l ho, v = .ref l ∧ H l = some ho ∧ OwnR E F d ho
theorem RepO.mono {E : Am} {F H F' H' : Hp} {d : D} {v : V} (h : RepO E F H d v) (x : Ext F H F' H') : RepO E F' H' d v := by
  rcases h with h | ⟨l, ho, h1, h2, h3⟩
  · exact .inl (Rep.mono x.f _ _ h)
  · exact .inr ⟨l, ho, h1, x.h _ _ h2, h3.mono x.f⟩
/-- what is wanted behind an evaluation: G says what is known of the value -/
def Post {α β : Type} (E : Am) (W : WX) (σ : L2.St) (F H : Hp) (G : Hp → Hp → α → β → Prop) (Q : β → Hp → Prop) : Rs α → Prop
  | .ok a => ∀ F' H' b, Ext F H F' H' → G F' H' a b → Q b H'
  | .err c x => ∀ F' H' cls dd, Ext F H F' H' → ErrP E F' H' c x cls dd → W cls dd σ H'
  | .no => False
/-- the reading t evaluates as p says (G: what is known of the value; its first place is the heap at the start) -/
def Evals {α β : Type} (E : Am) (W : WX) (G : Hp → Hp → Hp → α → β → Prop) (t : L2.St → Hp → (β → Hp → Prop) → Prop) (p : Ev → Rs α) : Prop :=
  ∀ (B F H : Hp) (σ : L2.St) (ρ : Ev) (Q : β → Hp → Prop), Same F H → Same B H → StR E B F H σ ρ → Post E W σ F H (G H) Q (p ρ) → t σ H Q
abbrev GS (E : Am) : Hp → Hp → Hp → D → V → Prop := fun _ F _ d v => Rep E F d v
abbrev GL (E : Am) : Hp → Hp → Hp → D → V → Prop := fun _ F H d v => RepO E F H d v
/-- a new own object -/
def GN (E : Am) : Hp → Hp → Hp → D → V → Prop := fun H0 F H d v => ∃ l ho, v = .ref l ∧ H0 l = none ∧ F l = none ∧ H l = some ho ∧ OwnR E F d ho
abbrev GA (E : Am) : Hp → Hp → Hp → List D → List V → Prop := fun _ F _ ds vs => RepL E F ds vs
def RepOL (E : Am) (F H : Hp) : List D → List V → Prop
  | [], vs => vs = []
  | d :: ds, vs => ∃ v r, vs = v :: r ∧ RepO E F H d v ∧ RepOL E F H ds r
abbrev GAL (E : Am) : Hp → Hp → Hp → List D → List V → Prop := fun _ F H ds vs => RepOL E F H ds vs
abbrev GB : Hp → Hp → Hp → Bool → Bool → Prop := fun _ _ _ a b => a = b
theorem Post.imp {α β : Type} {E : Am} {W : WX} {σ : L2.St} {F H : Hp} {G G' : Hp → Hp → α → β → Prop} {Q : β → Hp → Prop} {r : Rs α} (h : Post E W σ F H G Q r) (g : ∀ F' H' a b, Ext F H F' H' → G' F' H' a b → G F' H' a b) : Post E W σ F H G' Q r := by
  cases r with
  | ok a => exact fun F' H' b x q => h F' H' b x (g F' H' a b x q)
  | err c x => exact h
  | no => exact h
/-- behind a first evaluation -/
theorem Post.after {α β : Type} {E : Am} {W : WX} {σ : L2.St} {F H F1 H1 : Hp} {G : Hp → Hp → α → β → Prop} {Q : β → Hp → Prop} {r : Rs α} (x : Ext F H F1 H1) (h : Post E W σ F H G Q r) : Post E W σ F1 H1 G Q r := by
  cases r with
  | ok a => exact fun F' H' b y q => h F' H' b (x.trans y) q
  | err c z => exact fun F' H' cls dd y q => h F' H' cls dd (x.trans y) q
  | no => exact h
/-- one evaluation, then another -/
theorem Evals.seq {α β γ δ : Type} {E : Am} {W : WX} {G : Hp → Hp → Hp → α → β → Prop} {G2 : Hp → Hp → γ → δ → Prop} {t : L2.St → Hp → (β → Hp → Prop) → Prop} {p : Ev → Rs α} {k : α → Rs γ}
    {B F H : Hp} {σ : L2.St} {ρ : Ev} {Q : δ → Hp → Prop} {K : β → Hp → Prop} (h : Evals E W G t p) (s : Same F H) (sb : Same B H) (r : StR E B F H σ ρ) (post : Post E W σ F H G2 Q ((p ρ).bind k))
    (step : ∀ F1 H1 a b, p ρ = .ok a → Ext F H F1 H1 → Same B H1 → StR E B F1 H1 σ ρ → G H F1 H1 a b → Post E W σ F1 H1 G2 Q (k a) → K b H1) : t σ H K := by
  refine h B F H σ ρ K s sb r ?_
  cases e : p ρ with
  | ok a =>
    rw [e] at post
    exact fun F1 H1 b x g => step F1 H1 a b e x (sb.trans x.h) (r.mono x) g (Post.after x post)
  | err c z => rw [e] at post; exact post
  | no => rw [e] at post; exact post

/-! ## judgements on the text -/
/-- an expression over a family of contexts: strict, loose -/
def XE {I : Type} (X : I → Cx) (E : Am) (W : WX) (e : Expr) (p : Ev → Rs D) : Prop := ∃ t, (∀ i, PE (X i) e t) ∧ Evals E W (GS E) t p
def XL {I : Type} (X : I → Cx) (E : Am) (W : WX) (e : Expr) (p : Ev → Rs D) : Prop := ∃ t, (∀ i, PE (X i) e t) ∧ Evals E W (GL E) t p
def XA {I : Type} (X : I → Cx) (E : Am) (W : WX) (es : List Expr) (p : Ev → Rs (List D)) : Prop := ∃ t, (∀ i, PA (X i) es t) ∧ Evals E W (GA E) t p
def XT {I : Type} (X : I → Cx) (E : Am) (W : WX) (e : Expr) (p : Ev → Rs Bool) : Prop := ∃ t, (∀ i, PT (X i) e t) ∧ Evals E W GB t p
def XW {I : Type} (X : I → Cx) (E : Am) (W : WX) (e : Expr) (p : Ev → Rs Bool) : Prop := ∃ t, (∀ i, PW (X i) e t) ∧ Evals E W GB t p
/-- a new own object -/
def XN {I : Type} (X : I → Cx) (E : Am) (W : WX) (e : Expr) (p : Ev → Rs D) : Prop := ∃ t, (∀ i, PE (X i) e t) ∧ Evals E W (GN E) t p
def XAL {I : Type} (X : I → Cx) (E : Am) (W : WX) (es : List Expr) (p : Ev → Rs (List D)) : Prop := ∃ t, (∀ i, PA (X i) es t) ∧ Evals E W (GAL E) t p
theorem Evals.frz {E : Am} {W : WX} {t : TE} {p : Ev → Rs D} (h : Evals E W (GN E) t p) : Evals E W (GS E) t p := by
  intro B F H σ ρ Q s sb r post
  refine h B F H σ ρ Q s sb r ?_
  cases e : p ρ with
  | no => rw [e] at post; exact post
  | err c z => rw [e] at post; exact post
  | ok d =>
    rw [e] at post
    rintro F' H' v x ⟨l, ho, rfl, h1, h2, h3, h4⟩
    have sf : Same F' (upd F' l ho) := same_upd_self h2
    exact post (upd F' l ho) H' _ ⟨x.f.trans sf, x.h, fun b u q => by
      by_cases z : b = l
      · subst z; rw [upd_same] at q; rw [h3]; exact q
      · rw [upd_ne z] at q; exact x.fh b u q, fun a ha => by
      have : a ≠ l := fun z => ha (by rw [z]; exact h1)
      rw [upd_ne this]; exact x.nf a ha⟩ ((h4.mono sf).rep upd_same)
theorem XN.xe {I : Type} {X : I → Cx} {E : Am} {W : WX} {e : Expr} {p : Ev → Rs D} (h : XN X E W e p) : XE X E W e p := by
  obtain ⟨t, h1, h2⟩ := h
  exact ⟨t, h1, h2.frz⟩
theorem RepOL.mono {E : Am} {F H F' H' : Hp} (x : Ext F H F' H') : ∀ {ds : List D} {vs : List V}, RepOL E F H ds vs → RepOL E F' H' ds vs
  | [], vs, h => h
  | d :: ds, vs, h => by
    obtain ⟨v, r, h1, h2, h3⟩ := h
    exact ⟨v, r, h1, h2.mono x, RepOL.mono x h3⟩
theorem XE.loose {I : Type} {X : I → Cx} {E : Am} {W : WX} {e : Expr} {p : Ev → Rs D} (h : XE X E W e p) : XL X E W e p := by
  obtain ⟨t, h1, h2⟩ := h
  exact ⟨t, h1, fun B F H σ ρ Q s sb r post => h2 B F H σ ρ Q s sb r (post.imp fun F' H' a b _ g => .inl g)⟩
/-- what holds of every context of a family: k calls of room -/
structure Ctx {I : Type} (X : I → Cx) (E : Am) (W : WX) (k : Nat) : Prop where
  K : ∀ i, (X i).K = E.K
  calm : ∀ i, (X i).calm = true
  room : ∀ i, Room k (X i).A
  tk : ∀ i, Takes (X i) W
  po : ∀ i, PassesOwn (model (X i).prog (X i).w) (X i).A (X i).env (X i).xe
theorem Ctx.hu {I : Type} {X : I → Cx} {E : Am} {W : WX} {k : Nat} (c : Ctx X E W k) (i : I) : (X i).A.units + 200 < cLine := by
  have := (c.room i).un
  omega
end DL
end

section
set_option linter.all false
set_option maxRecDepth 100000
set_option maxHeartbeats 4000000
namespace DL
open PySem PySem.Spec L2
variable {I : Type} {X : I → Cx} {Y : Cx} {E : Am} {W : WX}

/-! ## small evaluations -/
theorem ev_ok {α β : Type} {E : Am} {W : WX} {G : Hp → Hp → α → β → Prop} {F H : Hp} {σ : L2.St} {Q : β → Hp → Prop} {a : α} {b : β} (s : Same F H) (p : Post E W σ F H G Q (.ok a)) (g : G F H a b) : Q b H := p F H b (Ext.refl s) g
/-- the datum in a slot -/
def pV (i : Nat) : Ev → Rs D := fun ρ => match ρ[i]? with | some (.dat d) => .ok d | _ => .no
/-- the datum or own object in a slot, to be looked at -/
def pVo (i : Nat) : Ev → Rs D := fun ρ => match ρ[i]? with | some (.dat d) => .ok d | some (.own d) => .ok d | _ => .no
def pC (d : D) : Ev → Rs D := fun _ => .ok d
theorem xe_var {e : Expr} {i : Nat} (h : ∀ j, PE (X j) e (tVar i)) : XE X E W e (pV i) := by
  refine ⟨_, h, fun B F H σ ρ Q s sb r post => ?_⟩
  unfold pV at post
  split at post
  · rename_i d e
    obtain ⟨v, h1, h2⟩ := r.dat i d e
    exact ⟨v, h1, ev_ok s post h2⟩
  · exact post.elim
theorem xl_var {e : Expr} {i : Nat} (h : ∀ j, PE (X j) e (tVar i)) : XL X E W e (pVo i) := by
  refine ⟨_, h, fun B F H σ ρ Q s sb r post => ?_⟩
  unfold pVo at post
  split at post
  · rename_i d e
    obtain ⟨v, h1, h2⟩ := r.dat i d e
    exact ⟨v, h1, ev_ok s post (.inl h2)⟩
  · rename_i d e
    obtain ⟨l, ho, h1, h2, h3, h4, h5⟩ := r.own i d e
    exact ⟨_, h1, ev_ok s post (.inr ⟨l, ho, rfl, h2, h5⟩)⟩
  · exact post.elim
/-- a constant of the text or of the module -/
theorem xe_c {e : Expr} {v : V} {d : D} (h : ∀ j, PE (X j) e (tC v)) (hd : ∀ F, Rep E F d v) : XE X E W e (pC d) :=
  ⟨_, h, fun B F H σ ρ Q s sb r post => ev_ok s post (hd F)⟩
theorem xe_int {i : Int} {j : Nat} {pos : Pos} : XE X E W (.Constant (.int i) j pos) (pC (.int i)) := xe_c (fun _ => pe_int) fun _ => rfl
theorem xe_bl {b : Bool} {j : Nat} {pos : Pos} : XE X E W (.Constant (.bool b) j pos) (pC (.bl b)) := xe_c (fun _ => pe_bl) fun _ => rfl
theorem xe_non {j : Nat} {pos : Pos} : XE X E W (.Constant .none j pos) (pC .non) := xe_c (fun _ => pe_non) fun _ => rfl
theorem xe_str {x : Str} {j : Nat} {pos : Pos} : XE X E W (.Constant (.str x) j pos) (pC (.str x)) := xe_c (fun _ => pe_str) fun _ => rfl

/-! ## two-place operations -/
/-- r does f to data -/
def OpS (E : Am) (r : R2) (f : D → D → Rs D) : Prop :=
  ∀ (W : WX) (F H : Hp) (σ : L2.St) (dx dy : D) (x y : V) (Q : VK), Same F H → RepO E F H dx x → RepO E F H dy y → Post E W σ F H (GS E H) Q (f dx dy) → r x y H Q
def pBin (f : D → D → Rs D) (pa pb : Ev → Rs D) : Ev → Rs D := fun ρ => (pa ρ).bind fun x => (pb ρ).bind fun y => f x y
theorem evals_op {r : R2} {f : D → D → Rs D} {ta tb : TE} {pa pb : Ev → Rs D} (ho : OpS E r f) (ha : Evals E W (GL E) ta pa) (hb : Evals E W (GL E) tb pb) : Evals E W (GS E) (tOp r ta tb) (pBin f pa pb) := by
  intro B F H σ ρ Q s sb r0 post
  show ta σ H _
  refine Evals.seq ha s sb r0 post fun F1 H1 dx x e1 x1 sb1 r1 g1 post1 => ?_
  refine Evals.seq hb x1.fh sb1 r1 post1 fun F2 H2 dy y e2 x2 sb2 r2 g2 post2 => ?_
  exact ho W F2 H2 σ dx dy x y Q x2.fh (g1.mono x2) g2 post2
theorem xe_bin {op : Operator} {a b : Expr} {pos : Pos} {r : R2} {f : D → D → Rs D} {pa pb : Ev → Rs D} (h1 : ∀ i, OpR (X i) (binaryOp op) r) (h2 : OpS E r f) (ha : XL X E W a pa) (hb : XL X E W b pb) : XE X E W (.BinOp a op b pos) (pBin f pa pb) := by
  obtain ⟨ta, a1, a2⟩ := ha
  obtain ⟨tb, b1, b2⟩ := hb
  exact ⟨_, fun i => pe_op (h1 i) (a1 i) (b1 i), evals_op h2 a2 b2⟩
theorem xe_cmp {op : CmpOp} {a b : Expr} {pos : Pos} {r : R2} {f : D → D → Rs D} {pa pb : Ev → Rs D} (h1 : ∀ i, OpR (X i) (compareOp op) r) (h2 : OpS E r f) (ha : XL X E W a pa) (hb : XL X E W b pb) (hm : behindInMarks op b = false) : XE X E W (.Compare a [op] [b] pos) (pBin f pa pb) := by
  obtain ⟨ta, a1, a2⟩ := ha
  obtain ⟨tb, b1, b2⟩ := hb
  exact ⟨_, fun i => pe_cmpR (h1 i) (a1 i) (b1 i) hm, evals_op h2 a2 b2⟩
def toB : D → Rs Bool | .bl b => .ok b | _ => .no
theorem evals_test {t : TE} {p : Ev → Rs D} (h : Evals E W (GS E) t p) : Evals E W GB (tTest t) (fun ρ => (p ρ).bind toB) := by
  intro B F H σ ρ Q s sb r post
  show t σ H _
  refine Evals.seq h s sb r post fun F1 H1 d v e1 x1 sb1 r1 g1 post1 => ?_
  cases d <;> first | exact post1.elim | skip
  rename_i b
  exact ⟨b, g1, ev_ok x1.fh post1 rfl⟩
theorem xt_cmp {op : CmpOp} {a b : Expr} {pos : Pos} {r : R2} {f : D → D → Rs D} {pa pb : Ev → Rs D} (h1 : ∀ i, OpR (X i) (compareOp op) r) (h2 : OpS E r f) (ha : XL X E W a pa) (hb : XL X E W b pb) (hm : behindInMarks op b = false) : XT X E W (.Compare a [op] [b] pos) (fun ρ => (pBin f pa pb ρ).bind toB) := by
  obtain ⟨ta, a1, a2⟩ := ha
  obtain ⟨tb, b1, b2⟩ := hb
  exact ⟨_, fun i => pt_cmpR (h1 i) (a1 i) (b1 i) hm, evals_test (evals_op h2 a2 b2)⟩
/-- a chain a op b op' c -/
def pChain (f f' : D → D → Rs D) (pa pb pc : Ev → Rs D) : Ev → Rs D := fun ρ => (pa ρ).bind fun x => (pb ρ).bind fun y => (f x y).bind fun z => match z with | .bl true => (pc ρ).bind fun w => f' y w | .bl false => .ok (.bl false) | _ => .no
theorem evals_chain {r r' : R2} {f f' : D → D → Rs D} {ta tb tc : TE} {pa pb pc : Ev → Rs D} (ho : OpS E r f) (ho' : OpS E r' f') (ha : Evals E W (GL E) ta pa) (hb : Evals E W (GL E) tb pb) (hc : Evals E W (GL E) tc pc) : Evals E W (GS E) (tChain r r' ta tb tc) (pChain f f' pa pb pc) := by
  intro B F H σ ρ Q s sb r0 post
  show ta σ H _
  refine Evals.seq ha s sb r0 post fun F1 H1 dx x e1 x1 sb1 r1 g1 post1 => ?_
  refine Evals.seq hb x1.fh sb1 r1 post1 fun F2 H2 dy y e2 x2 sb2 r2 g2 post2 => ?_
  refine ho W F2 H2 σ dx dy x y _ x2.fh (g1.mono x2) g2 ?_
  cases e : f dx dy with
  | no => rw [e] at post2; exact post2
  | err c z => rw [e] at post2; exact post2
  | ok z =>
    rw [e] at post2
    intro F3 H3 v x3 g3
    cases z with
    | bl k =>
      obtain rfl : v = .bl k := g3
      refine ⟨k, rfl, ?_⟩
      cases k with
      | true =>
        rw [if_pos rfl]
        refine Evals.seq hc x3.fh (sb2.trans x3.h) (r2.mono x3) (Post.after x3 post2) fun F4 H4 dw w' e4 x4 sb4 r4 g4 post4 => ?_
        exact ho' W F4 H4 σ dy dw y w' Q x4.fh ((g2.mono x3).mono x4) g4 post4
      | false =>
        rw [if_neg Bool.false_ne_true]
        exact post2 F3 H3 _ x3 rfl
    | _ => exact post2.elim
theorem xe_chain {op op' : CmpOp} {a b c : Expr} {pos : Pos} {r r' : R2} {f f' : D → D → Rs D} {pa pb pc : Ev → Rs D} (h1 : ∀ i, OpR (X i) (compareOp op) r) (h2 : OpS E r f) (h3 : ∀ i, OpR (X i) (compareOp op') r') (h4 : OpS E r' f') (ha : XL X E W a pa) (hb : XL X E W b pb) (hc : XL X E W c pc)
    (hm : lastMarks [op, op'] [b, c] = false := by with_unfolding_all rfl) : XE X E W (.Compare a [op, op'] [b, c] pos) (pChain f f' pa pb pc) := by
  obtain ⟨ta, a1, a2⟩ := ha
  obtain ⟨tb, b1, b2⟩ := hb
  obtain ⟨tc, c1, c2⟩ := hc
  exact ⟨_, fun i => pe_chain (h1 i) (h3 i) (a1 i) (b1 i) (c1 i) hm, evals_chain h2 h4 a2 b2 c2⟩
theorem xt_chain {op op' : CmpOp} {a b c : Expr} {pos : Pos} {r r' : R2} {f f' : D → D → Rs D} {pa pb pc : Ev → Rs D} (h1 : ∀ i, OpR (X i) (compareOp op) r) (h2 : OpS E r f) (h3 : ∀ i, OpR (X i) (compareOp op') r') (h4 : OpS E r' f') (ha : XL X E W a pa) (hb : XL X E W b pb) (hc : XL X E W c pc)
    (hm : lastMarks [op, op'] [b, c] = false := by with_unfolding_all rfl) : XT X E W (.Compare a [op, op'] [b, c] pos) (fun ρ => (pChain f f' pa pb pc ρ).bind toB) := by
  obtain ⟨ta, a1, a2⟩ := ha
  obtain ⟨tb, b1, b2⟩ := hb
  obtain ⟨tc, c1, c2⟩ := hc
  exact ⟨_, fun i => pt_chain (h1 i) (h3 i) (a1 i) (b1 i) (c1 i) hm, evals_test (evals_chain h2 h4 a2 b2 c2)⟩

/-! ### ints -/
def fI (g : Int → Int → D) : D → D → Rs D | .int i, .int j => .ok (g i j) | _, _ => .no
def fIC (C : Int → Int → Bool) (g : Int → Int → D) : D → D → Rs D | .int i, .int j => if C i j then .ok (g i j) else .no | _, _ => .no
theorem repO_int {F H : Hp} {i : Int} {v : V} (h : RepO E F H (.int i) v) : v = .int i := by
  rcases h with h | ⟨_, _, _, _, h⟩
  · exact h
  · exact h.elim
theorem repO_bl {F H : Hp} {b : Bool} {v : V} (h : RepO E F H (.bl b) v) : v = .bl b := by
  rcases h with h | ⟨_, _, _, _, h⟩
  · exact h
  · exact h.elim
theorem repO_str {F H : Hp} {x : Str} {v : V} (h : RepO E F H (.str x) v) : v = .str x := by
  rcases h with h | ⟨_, _, _, _, h⟩
  · exact h
  · exact h.elim
theorem repO_non {F H : Hp} {v : V} (h : RepO E F H .non v) : v = .non := by
  rcases h with h | ⟨_, _, _, _, h⟩
  · exact h
  · exact h.elim
theorem repO_tup {F H : Hp} {ds : List D} {v : V} (h : RepO E F H (.tup ds) v) : Rep E F (.tup ds) v := by
  rcases h with h | ⟨_, _, _, _, h⟩
  · exact h
  · exact h.elim
theorem ops_I {g : Int → Int → V} {g' : Int → Int → D} (h : ∀ i j F, Rep E F (g' i j) (g i j)) : OpS E (rI0 g) (fI g') := by
  intro W F H σ dx dy x y Q s h1 h2 post
  cases dx <;> first | exact post.elim | skip
  cases dy <;> first | exact post.elim | skip
  exact ⟨_, _, repO_int h1, repO_int h2, ev_ok s post (h _ _ F)⟩
theorem ops_IC {C : Int → Int → Prop} {C' : Int → Int → Bool} {g : Int → Int → V} {g' : Int → Int → D} (hc : ∀ i j, C' i j = true → C i j) (h : ∀ i j F, Rep E F (g' i j) (g i j)) : OpS E (rI C g) (fIC C' g') := by
  intro W F H σ dx dy x y Q s h1 h2 post
  cases dx <;> first | exact post.elim | skip
  cases dy <;> first | exact post.elim | skip
  rename_i i j
  have post : Post E W σ F H (GS E H) Q (if C' i j = true then .ok (g' i j) else .no) := post
  by_cases c : C' i j = true
  · rw [if_pos c] at post
    exact ⟨_, _, repO_int h1, repO_int h2, hc _ _ c, ev_ok s post (h _ _ F)⟩
  · rw [if_neg c] at post; exact post.elim
def fSub := fI fun i j => .int (i - j)
def mulOk (i j : Int) : Bool := decide (i.natAbs < 2 ^ 64) || decide (j.natAbs < 2 ^ 64) || decide (i.natAbs.log2 + j.natAbs.log2 < 1000000)
def fMul := fIC mulOk fun i j => .int (i * j)
def divOk (_ j : Int) : Bool := decide (0 < j) && decide (j.natAbs.log2 < 9000)
def fDiv := fIC divOk fun i j => .int (i / j)
def fMod := fIC (fun _ j => decide (0 < j)) fun i j => .int (i % j)
def powOk (i j : Int) : Bool := decide (0 ≤ j) && decide (j ≤ 1000000) && decide (i.natAbs < 2 ^ 64)
def fPow := fIC powOk fun i j => .int (i ^ j.toNat)
def fLt := fI fun i j => .bl (decide (i < j))
def fLe := fI fun i j => .bl (decide (i ≤ j))
def fGt := fI fun i j => .bl (decide (j < i))
def fGe := fI fun i j => .bl (decide (j ≤ i))
theorem ops_sub : OpS E (rI0 fun i j => .int (i - j)) fSub := ops_I fun _ _ _ => rfl
theorem ops_lt : OpS E (rI0 fun i j => .bl (decide (i < j))) fLt := ops_I fun _ _ _ => rfl
theorem ops_le : OpS E (rI0 fun i j => .bl (decide (i ≤ j))) fLe := ops_I fun _ _ _ => rfl
theorem ops_gt : OpS E (rI0 fun i j => .bl (decide (j < i))) fGt := ops_I fun _ _ _ => rfl
theorem ops_ge : OpS E (rI0 fun i j => .bl (decide (j ≤ i))) fGe := ops_I fun _ _ _ => rfl
def CMulA (i j : Int) : Prop := CMul i j ∨ CMulW i j
theorem op_mulA : OpR Y (binaryOp .Mult) (rI CMulA fun i j => .int (i * j)) := opI fun _ _ _ _ _ _ _ hc q => PyProof.Rows.mul_int q (hc.elim CMul.ok CMulW.ok)
theorem ops_mul : OpS E (rI CMulA fun i j => .int (i * j)) fMul := ops_IC (fun i j h => by
  unfold mulOk at h
  rcases Bool.or_eq_true_iff.mp h with h | h
  · rcases Bool.or_eq_true_iff.mp h with h | h
    · have := of_decide_eq_true h
      exact .inl (.inl ⟨by omega, by omega⟩)
    · have := of_decide_eq_true h
      exact .inl (.inr ⟨by omega, by omega⟩)
  · exact .inr (show i.natAbs.log2 + j.natAbs.log2 < 1000000 from of_decide_eq_true h)) fun _ _ _ => rfl
theorem ops_div : OpS E (rI CDivW fun i j => .int (i / j)) fDiv := ops_IC (fun i j h => by
  obtain ⟨h1, h2⟩ := Bool.and_eq_true_iff.mp h
  exact ⟨of_decide_eq_true h1, of_decide_eq_true h2⟩) fun _ _ _ => rfl
theorem ops_mod : OpS E (rI (fun _ j => 0 < j) fun i j => .int (i % j)) fMod := ops_IC (fun i j h => of_decide_eq_true h) fun _ _ _ => rfl
theorem ops_pow : OpS E (rI CPow fun i j => .int (i ^ j.toNat)) fPow := ops_IC (fun i j h => by
  obtain ⟨h1, h2⟩ := Bool.and_eq_true_iff.mp h
  obtain ⟨h0, h1⟩ := Bool.and_eq_true_iff.mp h1
  exact ⟨of_decide_eq_true h0, of_decide_eq_true h1, of_decide_eq_true h2⟩) fun _ _ _ => rfl
end DL
end

section
set_option linter.all false
set_option maxRecDepth 100000
set_option maxHeartbeats 4000000
namespace DL
open PySem PySem.Spec L2
variable {I : Type} {X : I → Cx} {Y : Cx} {E : Am} {W : WX}

/-! ## data as the library's data -/
mutual
def toPy : D → PyData
  | .non => .none
  | .bl b => .bool b
  | .int i => .int i
  | .str x => .str x
  | .tup ds => .tuple (toPyL ds)
  | .lst ds => .list (toPyL ds)
  | .kl ds => .list (toPyL ds)
  | .ins _ _ _ => .dict []
  | .dk _ _ => .dict []
  | .dt _ _ => .dict []
def toPyL : List D → List PyData
  | [] => []
  | d :: ds => toPy d :: toPyL ds
end
theorem toPyL_map : ∀ ds : List D, toPyL ds = ds.map toPy
  | [] => rfl
  | d :: ds => by show toPy d :: toPyL ds = _; rw [toPyL_map ds]; rfl
mutual
theorem Rep.dp {F H : Hp} (s : Same F H) : ∀ (d : D) (v : V), (toPy d).canLay0 = true → Rep E F d v → Dp E.K H v (toPy d)
  | .non, v, _, h => by cases h; exact .non
  | .bl b, v, _, h => by cases h; exact .bl b
  | .int i, v, _, h => by cases h; exact .int i
  | .str x, v, _, h => by cases h; exact .str x
  | .tup ds, v, c, h => by
    obtain ⟨a, vs, rfl, h2, h3⟩ := h
    exact .tup (sqT_mono s h2) (RepL.dp s ds vs c h3)
  | .lst ds, v, c, h => by
    obtain ⟨a, vs, rfl, h2, h3⟩ := h
    exact .lst (SqL.of (s _ _ h2)) (RepL.dp s ds vs c h3)
  | .kl ds, v, c, h => by
    obtain ⟨a, vs, rfl, h2, h3⟩ := h
    exact .lst (sqL_mono s h2) (RepL.dp s ds vs c h3)
  | .ins _ _ _, v, c, h => by simp [toPy, PyData.canLay0] at c
  | .dk _ _, v, c, h => by simp [toPy, PyData.canLay0] at c
  | .dt _ _, v, c, h => by simp [toPy, PyData.canLay0] at c
theorem RepL.dp {F H : Hp} (s : Same F H) : ∀ (ds : List D) (vs : List V), PyData.canLayAll0 (toPyL ds) = true → RepL E F ds vs → DpAll E.K H vs (toPyL ds)
  | [], vs, _, h => by cases h; exact .nil
  | d :: ds, vs, c, h => by
    obtain ⟨v, r, rfl, h2, h3⟩ := h
    have c' : ((toPy d).canLay0 && PyData.canLayAll0 (toPyL ds)) = true := c
    obtain ⟨c1, c2⟩ := Bool.and_eq_true_iff.mp c'
    exact .cons (Rep.dp s d v c1 h2) (RepL.dp s ds r c2 h3)
end
theorem RepO.dp {F H : Hp} (s : Same F H) {d : D} {v : V} (c : (toPy d).canLay0 = true) (h : RepO E F H d v) : Dp E.K H v (toPy d) := by
  rcases h with h | ⟨l, ho, rfl, h1, h2⟩
  · exact Rep.dp s d v c h
  · cases d with
    | lst ds =>
      obtain ⟨vs, rfl, h3⟩ := h2
      exact .lst (SqL.of h1) (RepL.dp s ds vs c h3)
    | ins _ _ _ => simp [toPy, PyData.canLay0] at c
    | dk _ _ => simp [toPy, PyData.canLay0] at c
    | dt _ _ => simp [toPy, PyData.canLay0] at c
    | _ => exact h2.elim

/-! ## == and != -/
def shp (d : D) : Bool := SeqAt.shaped (toPy d)
def deq (a b : D) : Bool := PyData.eqv (toPy a) (toPy b)
def fEq : D → D → Rs D
  | .str x, .str y => .ok (.bl (decide (x = y)))
  | a, b => if shp a && shp b then .ok (.bl (deq a b)) else .no
def fNe : D → D → Rs D
  | .str x, .str y => .ok (.bl (!decide (x = y)))
  | a, b => if shp a && shp b then .ok (.bl (!deq a b)) else .no
def rEqA (K : PySem.W.Frag) : R2 := fun x y H Q => rEq x y H Q ∨ rEqD K x y H Q
def rNeA (K : PySem.W.Frag) : R2 := fun x y H Q => rNe x y H Q ∨ rNeD K x y H Q
theorem op_eqA (hu : Y.A.units + 64 < cLine) : OpR Y (compareOp .Eq) (rEqA Y.K) := op_eq.or (op_eqD hu)
theorem op_neA (hu : Y.A.units + 64 < cLine) : OpR Y (compareOp .NotEq) (rNeA Y.K) := op_ne.or (op_neD hu)
theorem ops_eq : OpS E (rEqA E.K) fEq := by
  intro W F H σ dx dy x y Q s h1 h2 post
  unfold fEq at post
  split at post
  · rename_i x' y'
    cases repO_str h1
    cases repO_str h2
    refine .inl ⟨rfl, ?_⟩
    have e : decide (V.str x' = V.str y') = decide (x' = y') := by
      by_cases q : x' = y'
      · subst q; simp
      · simp [q]
    rw [e]
    exact ev_ok s post rfl
  · by_cases c : (shp dx && shp dy) = true
    · rw [if_pos c] at post
      obtain ⟨c1, c2⟩ := Bool.and_eq_true_iff.mp c
      exact .inr ⟨_, _, h1.dp s (SeqAt.canLay_of_shaped c1), h2.dp s (SeqAt.canLay_of_shaped c2), c1, c2, ev_ok s post rfl⟩
    · rw [if_neg c] at post; exact post.elim
theorem ops_ne : OpS E (rNeA E.K) fNe := by
  intro W F H σ dx dy x y Q s h1 h2 post
  unfold fNe at post
  split at post
  · rename_i x' y'
    cases repO_str h1
    cases repO_str h2
    refine .inl ⟨rfl, ?_⟩
    have e : decide (V.str x' = V.str y') = decide (x' = y') := by
      by_cases q : x' = y'
      · subst q; simp
      · simp [q]
    rw [e]
    exact ev_ok s post rfl
  · by_cases c : (shp dx && shp dy) = true
    · rw [if_pos c] at post
      obtain ⟨c1, c2⟩ := Bool.and_eq_true_iff.mp c
      exact .inr ⟨_, _, h1.dp s (SeqAt.canLay_of_shaped c1), h2.dp s (SeqAt.canLay_of_shaped c2), c1, c2, ev_ok s post rfl⟩
    · rw [if_neg c] at post; exact post.elim

/-! ## + -/
theorem repO_lstH {F H : Hp} (s : Same F H) {ds : List D} {v : V} (h : RepO E F H (.lst ds) v) : ∃ a vs, v = .ref a ∧ H a = some (.lst vs) ∧ RepL E F ds vs := by
  rcases h with ⟨a, vs, h1, h2, h3⟩ | ⟨l, ho, h1, h2, vs, h3, h4⟩
  · exact ⟨a, vs, h1, s _ _ h2, h3⟩
  · exact ⟨l, vs, h1, by rw [h2, h3], h4⟩
/-- what a list, a tuple holds -/
def items : D → Option (List D)
  | .lst ds => some ds | .kl ds => some ds | .tup ds => some ds | _ => none
def isTup : D → Bool | .tup _ => true | _ => false
theorem repO_items {F H : Hp} (s : Same F H) {d : D} {ds : List D} {v : V} (e : items d = some ds) (h : RepO E F H d v) : ∃ a vs, v = .ref a ∧ (if isTup d then SqT E.K H a vs else SqL E.K H a vs) ∧ RepL E F ds vs := by
  cases d <;> simp only [items, Option.some.injEq] at e <;> first | contradiction | skip
  · subst e
    obtain ⟨a, vs, h1, h2, h3⟩ := repO_tup h
    exact ⟨a, vs, h1, by rw [if_pos (by rfl)]; exact sqT_mono s h2, h3⟩
  · subst e
    obtain ⟨a, vs, h1, h2, h3⟩ := repO_lstH s h
    exact ⟨a, vs, h1, by rw [if_neg (by simp [isTup])]; exact SqL.of h2, h3⟩
  · subst e
    rcases h with ⟨a, vs, h1, h2, h3⟩ | ⟨_, _, _, _, h⟩
    · exact ⟨a, vs, h1, by rw [if_neg (by simp [isTup])]; exact sqL_mono s h2, h3⟩
    · exact h.elim
theorem repO_seq {F H : Hp} (s : Same F H) {d : D} {ds : List D} {v : V} (e : items d = some ds) (h : RepO E F H d v) : ∃ a vs, v = .ref a ∧ (SqL E.K H a vs ∨ SqT E.K H a vs) ∧ RepL E F ds vs := by
  obtain ⟨a, vs, h1, h2, h3⟩ := repO_items s e h
  refine ⟨a, vs, h1, ?_, h3⟩
  split at h2
  · exact .inr h2
  · exact .inl h2
def fAdd : D → D → Rs D
  | .int i, .int j => .ok (.int (i + j))
  | .str x, .str y => if x.length + y.length ≤ sizeLine then .ok (.str (x ++ y)) else .no
  | .lst x, .lst y => if x.length + y.length ≤ sizeLine then .ok (.lst (x ++ y)) else .no
  | .tup x, .tup y => if !x.isEmpty && decide (x.length + y.length ≤ sizeLine) then .ok (.tup (x ++ y)) else .no
  | _, _ => .no
def rAddA (K : PySem.W.Frag) : R2 := fun x y H Q => rI0 (fun i j => .int (i + j)) x y H Q ∨ (∃ i j, x = .str i ∧ y = .str j ∧ i.length + j.length ≤ sizeLine ∧ Q (.str (i ++ j)) H) ∨ rCat x y H Q ∨ rCatT K x y H Q
theorem op_addA : OpR Y (binaryOp .Add) (rAddA Y.K) := op_add.or (op_add_str.or (op_cat.or op_catT))
theorem gs_newL {F H : Hp} {p : Addr} {ds : List D} {vs : List V} (s : Same F H) (hp : H p = none) (h : RepL E F ds vs) : Rep E (upd F p (.lst vs)) (.lst ds) (.ref p) := ⟨p, vs, rfl, upd_same, RepL.mono (same_upd_self (s.free hp)) _ _ h⟩
theorem gs_newT {F H : Hp} {p : Addr} {ds : List D} {vs : List V} (s : Same F H) (hp : H p = none) (h : RepL E F ds vs) : Rep E (upd F p (.tup vs)) (.tup ds) (.ref p) := ⟨p, vs, rfl, SqT.of upd_same, RepL.mono (same_upd_self (s.free hp)) _ _ h⟩
theorem ops_add : OpS E (rAddA E.K) fAdd := by
  intro W F H σ dx dy x y Q s h1 h2 post
  unfold fAdd at post
  split at post
  · exact .inl ⟨_, _, repO_int h1, repO_int h2, ev_ok s post rfl⟩
  · rename_i i j
    by_cases c : i.length + j.length ≤ sizeLine
    · rw [if_pos c] at post
      exact .inr (.inl ⟨_, _, repO_str h1, repO_str h2, c, ev_ok s post rfl⟩)
    · rw [if_neg c] at post; exact post.elim
  · rename_i i j
    by_cases c : i.length + j.length ≤ sizeLine
    · rw [if_pos c] at post
      obtain ⟨a, vs, e1, q1, r1⟩ := repO_lstH s h1
      obtain ⟨b, us, e2, q2, r2⟩ := repO_lstH s h2
      refine .inr (.inr (.inl ⟨a, b, vs, us, e1, e2, q1, q2, by rw [← r1.len, ← r2.len]; exact c, fun p hp => ?_⟩))
      exact post _ _ _ (Ext.new s hp) (gs_newL s hp (r1.append r2))
    · rw [if_neg c] at post; exact post.elim
  · rename_i i j
    by_cases c : (!i.isEmpty && decide (i.length + j.length ≤ sizeLine)) = true
    · rw [if_pos c] at post
      obtain ⟨c1, c2⟩ := Bool.and_eq_true_iff.mp c
      have c2 := of_decide_eq_true c2
      obtain ⟨a, vs, e1, q1, r1⟩ := repO_tup h1
      obtain ⟨b, us, e2, q2, r2⟩ := repO_tup h2
      refine .inr (.inr (.inr ⟨a, b, vs, us, e1, e2, sqT_mono s q1, sqT_mono s q2, ?_, by rw [← r1.len, ← r2.len]; exact c2, fun z => ?_, fun z p hp => ?_⟩))
      · intro z
        subst z
        have := r1.len
        cases i with
        | nil => simp at c1
        | cons _ _ => simp at this
      · subst z
        have : j = [] := by
          have := r2.len
          cases j with
          | nil => rfl
          | cons _ _ => simp at this
        subst this
        subst e1
        refine ev_ok s post ⟨a, vs, rfl, q1, ?_⟩
        rw [List.append_nil]; exact r1
      · exact post _ _ _ (Ext.new s hp) (gs_newT s hp (r1.append r2))
    · rw [if_neg c] at post; exact post.elim
  · exact post.elim

/-! ## is None -/
def isN : D → Bool | .non => true | _ => false
theorem rep_isN {F H : Hp} {d : D} {v : V} (h : RepO E F H d v) : decide (v = V.non) = isN d := by
  rcases h with h | ⟨l, ho, rfl, h1, h2⟩
  · cases d with
    | non => cases h; rfl
    | bl _ => cases h; rfl
    | int _ => cases h; rfl
    | str _ => cases h; rfl
    | tup _ => obtain ⟨a, vs, rfl, _⟩ := h; rfl
    | lst _ => obtain ⟨a, vs, rfl, _⟩ := h; rfl
    | kl _ => obtain ⟨a, vs, rfl, _⟩ := h; rfl
    | ins _ _ _ => obtain ⟨a, _, vs, rfl, _⟩ := h; rfl
    | dk _ _ => obtain ⟨a, vs, rfl, _⟩ := h; rfl
    | dt _ _ => obtain ⟨a, vs, rfl, _⟩ := h; rfl
  · cases d <;> first | exact h2.elim | rfl
def fIs : D → D → Rs D | d, .non => .ok (.bl (isN d)) | _, _ => .no
def fIsNot : D → D → Rs D | d, .non => .ok (.bl (!isN d)) | _, _ => .no
theorem ops_is : OpS E (fun x y H Q => y = .non ∧ Q (.bl (decide (x = .non))) H) fIs := by
  intro W F H σ dx dy x y Q s h1 h2 post
  cases dy <;> first | exact post.elim | skip
  refine ⟨repO_non h2, ?_⟩
  rw [rep_isN h1]
  exact ev_ok s post rfl
theorem ops_isNot : OpS E (fun x y H Q => y = .non ∧ Q (.bl (!decide (x = .non))) H) fIsNot := by
  intro W F H σ dx dy x y Q s h1 h2 post
  cases dy <;> first | exact post.elim | skip
  refine ⟨repO_non h2, ?_⟩
  rw [rep_isN h1]
  exact ev_ok s post rfl

/-! ## in -/
def flat : D → Bool | .non => true | .bl _ => true | .int _ => true | .str _ => true | _ => false
theorem flat_rep {F H : Hp} {d : D} {v : V} (f : flat d = true) (h : RepO E F H d v) : flatV v = true := by
  rcases h with h | ⟨_, _, _, _, h⟩
  · cases d <;> first | (cases f; done) | (cases h; rfl)
  · cases d <;> first | (cases f; done) | exact h.elim
theorem flat_eqV {F H F' H' : Hp} {d e : D} {v u : V} (fd : flat d = true) (fe : flat e = true) (h : RepO E F H d v) (h' : RepO E F' H' e u) : eqV v u = deq d e := by
  have h : Rep E F d v := by
    rcases h with h | ⟨_, _, _, _, h⟩
    · exact h
    · cases d <;> first | (cases fd; done) | exact h.elim
  have h' : Rep E F' e u := by
    rcases h' with h | ⟨_, _, _, _, h⟩
    · exact h
    · cases e <;> first | (cases fe; done) | exact h.elim
  cases d <;> (first | (cases fd; done) | skip) <;> cases e <;> (first | (cases fe; done) | skip) <;> cases h <;> cases h' <;> simp [eqV, deq, toPy, PyData.eqv]
theorem flats_rep {F : Hp} : ∀ {ds : List D} {vs : List V}, ds.all flat = true → RepL E F ds vs → vs.all flatV = true
  | [], vs, _, h => by cases h; rfl
  | d :: ds, vs, f, h => by
    obtain ⟨v, r, rfl, h1, h2⟩ := h
    rw [List.all_cons, Bool.and_eq_true] at f
    rw [List.all_cons, Bool.and_eq_true]
    exact ⟨flat_rep (H := F) f.1 (.inl h1), flats_rep f.2 h2⟩
theorem flats_in {F F' H' : Hp} {x : D} {u : V} (fx : flat x = true) (hx : RepO E F' H' x u) : ∀ {ds : List D} {vs : List V}, ds.all flat = true → RepL E F ds vs → inV u vs = ds.any fun y => deq y x
  | [], vs, _, h => by cases h; rfl
  | d :: ds, vs, f, h => by
    obtain ⟨v, r, rfl, h1, h2⟩ := h
    rw [List.all_cons, Bool.and_eq_true] at f
    show (eqV v u || inV u r) = (deq d x || ds.any fun y => deq y x)
    rw [flats_in fx hx f.2 h2, flat_eqV (H := F) f.1 fx (.inl h1) hx]
def strIn (x z : Str) : Bool := !(Builtin.Str.occurrences z x 0 z.length 1).isEmpty
def fIn (neg : Bool) : D → D → Rs D
  | .str x, .str z => .ok (.bl (neg ^^ strIn x z))
  | x, c => match items c with
    | some ds => if flat x && ds.all flat then .ok (.bl (neg ^^ ds.any fun y => deq y x)) else .no
    | none => .no
theorem xor_ite (neg b : Bool) : (if neg then !b else b) = (neg ^^ b) := by cases neg <;> simp
def rInA (K : PySem.W.Frag) : R2 := fun x y H Q => (∃ i j, x = .str i ∧ y = .str j ∧ Q (.bl (!(Builtin.Str.occurrences j i 0 j.length 1).isEmpty)) H) ∨ rIn K false x y H Q
def rNotInA (K : PySem.W.Frag) : R2 := fun x y H Q => (∃ i j, x = .str i ∧ y = .str j ∧ Q (.bl (!(!(Builtin.Str.occurrences j i 0 j.length 1).isEmpty))) H) ∨ rIn K true x y H Q
theorem op_inA : OpR Y (compareOp .In) (rInA Y.K) := op_in_str.or op_in_seq
theorem op_notInA : OpR Y (compareOp .NotIn) (rNotInA Y.K) := op_notIn_str.or op_notIn_seq
theorem ops_inG {neg : Bool} {r : R2} (hr : ∀ x y H Q, ((∃ i j, x = .str i ∧ y = .str j ∧ Q (.bl (neg ^^ strIn i j)) H) ∨ rIn E.K neg x y H Q) → r x y H Q) : OpS E r (fIn neg) := by
  intro W F H σ dx dy x y Q s h1 h2 post
  refine hr _ _ _ _ ?_
  unfold fIn at post
  split at post
  · exact .inl ⟨_, _, repO_str h1, repO_str h2, ev_ok s post rfl⟩
  · split at post
    · rename_i ds e
      by_cases c : (flat dx && ds.all flat) = true
      · rw [if_pos c] at post
        obtain ⟨c1, c2⟩ := Bool.and_eq_true_iff.mp c
        obtain ⟨a, vs, e1, q1, r1⟩ := repO_seq s e h2
        refine .inr ⟨a, vs, e1, q1, flat_rep c1 h1, flats_rep c2 r1, ?_⟩
        rw [xor_ite, flats_in c1 h1 c2 r1]
        exact ev_ok s post rfl
      · rw [if_neg c] at post; exact post.elim
    · exact post.elim
theorem ops_in : OpS E (rInA E.K) (fIn false) := ops_inG fun x y H Q h => by
  rcases h with ⟨i, j, h1, h2, h3⟩ | h
  · refine .inl ⟨i, j, h1, h2, ?_⟩
    simpa [strIn] using h3
  · exact .inr h
theorem ops_notIn : OpS E (rNotInA E.K) (fIn true) := ops_inG fun x y H Q h => by
  rcases h with ⟨i, j, h1, h2, h3⟩ | h
  · refine .inl ⟨i, j, h1, h2, ?_⟩
    simpa [strIn] using h3
  · exact .inr h
end DL
end

section
set_option linter.all false
set_option maxRecDepth 100000
set_option maxHeartbeats 4000000
namespace DL
open PySem PySem.Spec L2
variable {I : Type} {X : I → Cx} {Y : Cx} {E : Am} {W : WX}

/-! ## tests -/
def tru : D → Rs Bool
  | .non => .ok false | .bl b => .ok b | .int i => .ok (i != 0)
  | .str x => if x.length ≤ sizeLine then .ok ((x.length : Int) != 0) else .no
  | .tup ds => .ok (!ds.isEmpty) | .lst ds => .ok (!ds.isEmpty) | .kl ds => .ok (!ds.isEmpty)
  | .dk ks ds => .ok (!(ks.zip ds).isEmpty)
  | _ => .no
theorem isEmpty_len {α β : Type} {xs : List α} {ys : List β} (h : xs.length = ys.length) : xs.isEmpty = ys.isEmpty := by
  cases xs <;> cases ys <;> simp at h ⊢
theorem tru_rep {F H : Hp} (s : Same F H) {d : D} {v : V} {k : Bool} (e : tru d = .ok k) (h : RepO E F H d v) : TruV E.K v H k := by
  cases d with
  | non => cases repO_non h; cases e; rfl
  | bl b => cases repO_bl h; cases e; rfl
  | int i => cases repO_int h; cases e; rfl
  | str x =>
    cases repO_str h
    have e : (if x.length ≤ sizeLine then (Rs.ok ((x.length : Int) != 0) : Rs Bool) else .no) = .ok k := e
    by_cases c : x.length ≤ sizeLine
    · rw [if_pos c] at e; cases e; exact ⟨c, rfl⟩
    · rw [if_neg c] at e; cases e
  | tup ds =>
    cases e
    obtain ⟨a, vs, rfl, h2, h3⟩ := repO_tup h
    exact .inr (.inl ⟨vs, sqT_mono s h2, by rw [isEmpty_len h3.len]⟩)
  | lst ds =>
    cases e
    obtain ⟨a, vs, rfl, h2, h3⟩ := repO_lstH s h
    exact .inl ⟨vs, SqL.of h2, by rw [isEmpty_len h3.len]⟩
  | kl ds =>
    cases e
    obtain ⟨a, vs, rfl, h2, h3⟩ := repO_seq s (d := .kl ds) rfl h
    rcases h with ⟨a', vs', q1, q2, q3⟩ | ⟨_, _, _, _, q⟩
    · cases q1
      exact .inl ⟨vs', sqL_mono s q2, by rw [isEmpty_len q3.len]⟩
    · exact q.elim
  | dk ks ds =>
    cases e
    have key : ∃ a vs, v = .ref a ∧ H a = some (.dK (ks.zip vs)) ∧ RepL E F ds vs := by
      rcases h with ⟨a, vs, q1, q2, q3, q4⟩ | ⟨l, ho, q1, q2, vs, q3, q4, q5⟩
      · exact ⟨a, vs, q1, s _ _ q2, q4⟩
      · exact ⟨l, vs, q1, by rw [q2, q3], q5⟩
    obtain ⟨a, vs, rfl, h2, h3⟩ := key
    refine .inr (.inr ⟨_, h2, ?_⟩)
    rw [isEmpty_len (show (ks.zip ds).length = (ks.zip vs).length by rw [List.length_zip, List.length_zip, h3.len])]
  | ins _ _ _ => cases e
  | dt _ _ => cases e
theorem xt_val {a : Expr} {p : Ev → Rs D} (h : XL X E W a p) {k : Nat} (c : Ctx X E W k) (he : ∀ i whole, isTrue a (X i).env whole = (do let v ← whole; standAt a.pos; holding [v] (truthy v)) := by intro _ _; rfl) : XT X E W a (fun ρ => (p ρ).bind tru) := by
  obtain ⟨t, h1, h2⟩ := h
  refine ⟨fun σ H Q => t σ H fun x H' => ∃ k, TruV E.K x H' k ∧ Q k H', fun i => by rw [← c.K i]; exact pt_truth (h1 i) (he i), fun B F H σ ρ Q s sb r post => ?_⟩
  show t σ H _
  refine Evals.seq h2 s sb r post fun F1 H1 d v e1 x1 sb1 r1 g1 post1 => ?_
  cases e : tru d with
  | ok k => rw [e] at post1; exact ⟨k, tru_rep x1.fh e g1, ev_ok x1.fh post1 rfl⟩
  | err c z => cases d <;> simp [tru] at e <;> split at e <;> cases e
  | no => rw [e] at post1; exact post1.elim
def pNot (p : Ev → Rs Bool) : Ev → Rs Bool := fun ρ => (p ρ).bind fun b => .ok (!b)
def pAnd (p q : Ev → Rs Bool) : Ev → Rs Bool := fun ρ => (p ρ).bind fun b => if b = true then q ρ else .ok false
def pOr (p q : Ev → Rs Bool) : Ev → Rs Bool := fun ρ => (p ρ).bind fun b => if b = true then .ok true else q ρ
theorem xt_not {a : Expr} {pos : Pos} {p : Ev → Rs Bool} (h : XT X E W a p) : XT X E W (.UnaryOp .Not a pos) (pNot p) := by
  obtain ⟨t, h1, h2⟩ := h
  refine ⟨_, fun i => pt_not (h1 i), fun B F H σ ρ Q s sb r post => ?_⟩
  show t σ H _
  refine Evals.seq h2 s sb r post fun F1 H1 b b' e1 x1 sb1 r1 g1 post1 => ?_
  cases g1
  exact ev_ok x1.fh post1 rfl
theorem xw_pt {a : Expr} {p : Ev → Rs Bool} (h : XW X E W a p) : XT X E W a p := by
  obtain ⟨t, h1, h2⟩ := h
  exact ⟨t, fun i => (h1 i).pt, h2⟩
theorem xw_and1 {a : Expr} {pos : Pos} {p : Ev → Rs Bool} (h : XT X E W a p) : XW X E W (.BoolOp .And [a] pos) p := by
  obtain ⟨t, h1, h2⟩ := h
  exact ⟨t, fun i => pw_and1 (h1 i), h2⟩
theorem xw_or1 {a : Expr} {pos : Pos} {p : Ev → Rs Bool} (h : XT X E W a p) : XW X E W (.BoolOp .Or [a] pos) p := by
  obtain ⟨t, h1, h2⟩ := h
  exact ⟨t, fun i => pw_or1 (h1 i), h2⟩
theorem xw_and {a b : Expr} {rest : List Expr} {pos : Pos} {p q : Ev → Rs Bool} (h : XT X E W a p) (h' : XW X E W (.BoolOp .And (b :: rest) pos) q) : XW X E W (.BoolOp .And (a :: b :: rest) pos) (pAnd p q) := by
  obtain ⟨t, h1, h2⟩ := h
  obtain ⟨u, g1, g2⟩ := h'
  refine ⟨_, fun i => pw_and (h1 i) (g1 i), fun B F H σ ρ Q s sb r post => ?_⟩
  show t σ H _
  refine Evals.seq h2 s sb r post fun F1 H1 b b' e1 x1 sb1 r1 gg post1 => ?_
  cases gg
  cases b with
  | true => exact g2 B F1 H1 σ ρ Q x1.fh sb1 r1 (post1.imp fun _ _ _ _ _ g => g)
  | false => exact ev_ok x1.fh post1 rfl
theorem xw_or {a b : Expr} {rest : List Expr} {pos : Pos} {p q : Ev → Rs Bool} (h : XT X E W a p) (h' : XW X E W (.BoolOp .Or (b :: rest) pos) q) : XW X E W (.BoolOp .Or (a :: b :: rest) pos) (pOr p q) := by
  obtain ⟨t, h1, h2⟩ := h
  obtain ⟨u, g1, g2⟩ := h'
  refine ⟨_, fun i => pw_or (h1 i) (g1 i), fun B F H σ ρ Q s sb r post => ?_⟩
  show t σ H _
  refine Evals.seq h2 s sb r post fun F1 H1 b b' e1 x1 sb1 r1 gg post1 => ?_
  cases gg
  cases b with
  | true => exact ev_ok x1.fh post1 rfl
  | false => exact g2 B F1 H1 σ ρ Q x1.fh sb1 r1 (post1.imp fun _ _ _ _ _ g => g)
/-- and, or, not as values of bools -/
def pAndV (p q : Ev → Rs D) : Ev → Rs D := fun ρ => (p ρ).bind fun d => match d with | .bl true => q ρ | .bl false => .ok (.bl false) | _ => .no
def pOrV (p q : Ev → Rs D) : Ev → Rs D := fun ρ => (p ρ).bind fun d => match d with | .bl true => .ok (.bl true) | .bl false => q ρ | _ => .no
def pNotV (p : Ev → Rs D) : Ev → Rs D := fun ρ => (p ρ).bind fun d => match d with | .bl b => .ok (.bl (!b)) | _ => .no
theorem xe_one {op : BoolOp} {a : Expr} {pos : Pos} {p : Ev → Rs D} (h : XE X E W a p) : XE X E W (.BoolOp op [a] pos) p := by
  obtain ⟨t, h1, h2⟩ := h
  exact ⟨t, fun i => pe_one (h1 i), h2⟩
theorem xe_and {a b : Expr} {rest : List Expr} {pos : Pos} {p q : Ev → Rs D} (h : XE X E W a p) (h' : XE X E W (.BoolOp .And (b :: rest) pos) q) : XE X E W (.BoolOp .And (a :: b :: rest) pos) (pAndV p q) := by
  obtain ⟨t, h1, h2⟩ := h
  obtain ⟨u, g1, g2⟩ := h'
  refine ⟨_, fun i => pe_and (h1 i) (g1 i), fun B F H σ ρ Q s sb r post => ?_⟩
  show t σ H _
  refine Evals.seq h2 s sb r post fun F1 H1 d v e1 x1 sb1 r1 gg post1 => ?_
  cases d <;> first | exact post1.elim | skip
  rename_i b
  obtain rfl : v = .bl b := gg
  refine ⟨b, rfl, ?_⟩
  cases b with
  | true => exact g2 B F1 H1 σ ρ Q x1.fh sb1 r1 post1
  | false => exact ev_ok x1.fh post1 rfl
theorem xe_or {a b : Expr} {rest : List Expr} {pos : Pos} {p q : Ev → Rs D} (h : XE X E W a p) (h' : XE X E W (.BoolOp .Or (b :: rest) pos) q) : XE X E W (.BoolOp .Or (a :: b :: rest) pos) (pOrV p q) := by
  obtain ⟨t, h1, h2⟩ := h
  obtain ⟨u, g1, g2⟩ := h'
  refine ⟨_, fun i => pe_or (h1 i) (g1 i), fun B F H σ ρ Q s sb r post => ?_⟩
  show t σ H _
  refine Evals.seq h2 s sb r post fun F1 H1 d v e1 x1 sb1 r1 gg post1 => ?_
  cases d <;> first | exact post1.elim | skip
  rename_i b
  obtain rfl : v = .bl b := gg
  refine ⟨b, rfl, ?_⟩
  cases b with
  | true => exact ev_ok x1.fh post1 rfl
  | false => exact g2 B F1 H1 σ ρ Q x1.fh sb1 r1 post1
theorem xe_not {a : Expr} {pos : Pos} {p : Ev → Rs D} (h : XE X E W a p) : XE X E W (.UnaryOp .Not a pos) (pNotV p) := by
  obtain ⟨t, h1, h2⟩ := h
  refine ⟨_, fun i => pe_not (h1 i), fun B F H σ ρ Q s sb r post => ?_⟩
  show t σ H _
  refine Evals.seq h2 s sb r post fun F1 H1 d v e1 x1 sb1 r1 gg post1 => ?_
  cases d <;> first | exact post1.elim | skip
  rename_i b
  obtain rfl : v = .bl b := gg
  exact ⟨b, rfl, ev_ok x1.fh post1 rfl⟩
def pIf {α : Type} (c : Ev → Rs Bool) (p q : Ev → Rs α) : Ev → Rs α := fun ρ => (c ρ).bind fun b => if b = true then p ρ else q ρ
theorem evals_if {G : Hp → Hp → Hp → D → V → Prop} (hG : ∀ {F H F1 H1 F' H' d v}, Ext F H F1 H1 → G H1 F' H' d v → G H F' H' d v) {tc : TT} {ta tb : TE} {c : Ev → Rs Bool} {p q : Ev → Rs D} (hc : Evals E W GB tc c) (ha : Evals E W G ta p) (hb : Evals E W G tb q) : Evals E W G (tIf tc ta tb) (pIf c p q) := by
  intro B F H σ ρ Q s sb r post
  show tc σ H _
  refine Evals.seq hc s sb r post fun F1 H1 b b' e1 x1 sb1 r1 gg post1 => ?_
  cases gg
  cases b with
  | true => exact ha B F1 H1 σ ρ Q x1.fh sb1 r1 (Post.imp post1 fun _ _ _ _ _ g => hG x1 g)
  | false => exact hb B F1 H1 σ ρ Q x1.fh sb1 r1 (Post.imp post1 fun _ _ _ _ _ g => hG x1 g)
theorem xe_if {c a b : Expr} {pos : Pos} {pc : Ev → Rs Bool} {p q : Ev → Rs D} (hc : XT X E W c pc) (ha : XE X E W a p) (hb : XE X E W b q) : XE X E W (.IfExp c a b pos) (pIf pc p q) := by
  obtain ⟨tc, c1, c2⟩ := hc
  obtain ⟨ta, a1, a2⟩ := ha
  obtain ⟨tb, b1, b2⟩ := hb
  exact ⟨_, fun i => pe_ifExp (c1 i) (a1 i) (b1 i), evals_if (fun _ g => g) c2 a2 b2⟩

/-! ## unary minus -/
def fNeg : D → Rs D | .int i => .ok (.int (-i)) | _ => .no
def pUn (f : D → Rs D) (p : Ev → Rs D) : Ev → Rs D := fun ρ => (p ρ).bind f
theorem xe_neg {a : Expr} {pos : Pos} {p : Ev → Rs D} (h : XL X E W a p) : XE X E W (.UnaryOp .USub a pos) (pUn fNeg p) := by
  obtain ⟨t, h1, h2⟩ := h
  refine ⟨_, fun i => pe_un un_neg (h1 i), fun B F H σ ρ Q s sb r post => ?_⟩
  show t σ H _
  refine Evals.seq h2 s sb r post fun F1 H1 d v e1 x1 sb1 r1 gg post1 => ?_
  cases d <;> first | exact post1.elim | skip
  exact ⟨_, repO_int gg, ev_ok x1.fh post1 rfl⟩

/-! ## argument lists -/
def pNil : Ev → Rs (List D) := fun _ => .ok []
def pCons (p : Ev → Rs D) (q : Ev → Rs (List D)) : Ev → Rs (List D) := fun ρ => (p ρ).bind fun d => (q ρ).bind fun ds => .ok (d :: ds)
theorem xa_nil : XA X E W [] pNil := ⟨_, fun _ => pa_nil, fun B F H σ ρ Q s sb r post => ev_ok s post rfl⟩
theorem xal_nil : XAL X E W [] pNil := ⟨_, fun _ => pa_nil, fun B F H σ ρ Q s sb r post => ev_ok s post rfl⟩
theorem xa_cons {e : Expr} {es : List Expr} {p : Ev → Rs D} {q : Ev → Rs (List D)} (h : XE X E W e p) (h' : XA X E W es q) (hs : ∀ i, starEach (e :: es) (X i).env = (false, eval e (X i).env) :: starEach es (X i).env := by intro _; rfl) : XA X E W (e :: es) (pCons p q) := by
  obtain ⟨t, h1, h2⟩ := h
  obtain ⟨u, g1, g2⟩ := h'
  refine ⟨_, fun i => pa_cons (h1 i) (g1 i) (hs i), fun B F H σ ρ Q s sb r post => ?_⟩
  show t σ H _
  refine Evals.seq h2 s sb r post fun F1 H1 d v e1 x1 sb1 r1 gg post1 => ?_
  show u σ H1 _
  refine Evals.seq g2 x1.fh sb1 r1 post1 fun F2 H2 ds vs e2 x2 sb2 r2 g2 post2 => ?_
  exact ev_ok x2.fh post2 (.cons (Rep.mono x2.f _ _ gg) g2)
theorem xal_cons {e : Expr} {es : List Expr} {p : Ev → Rs D} {q : Ev → Rs (List D)} (h : XL X E W e p) (h' : XAL X E W es q) (hs : ∀ i, starEach (e :: es) (X i).env = (false, eval e (X i).env) :: starEach es (X i).env := by intro _; rfl) : XAL X E W (e :: es) (pCons p q) := by
  obtain ⟨t, h1, h2⟩ := h
  obtain ⟨u, g1, g2⟩ := h'
  refine ⟨_, fun i => pa_cons (h1 i) (g1 i) (hs i), fun B F H σ ρ Q s sb r post => ?_⟩
  show t σ H _
  refine Evals.seq h2 s sb r post fun F1 H1 d v e1 x1 sb1 r1 gg post1 => ?_
  show u σ H1 _
  refine Evals.seq g2 x1.fh sb1 r1 post1 fun F2 H2 ds vs e2 x2 sb2 r2 g2 post2 => ?_
  exact ev_ok x2.fh post2 ⟨_, _, rfl, gg.mono x2, g2⟩
/-! ## displays -/
def pTup (q : Ev → Rs (List D)) : Ev → Rs D := fun ρ => (q ρ).bind fun ds => if ds.length ≤ sizeLine then .ok (.tup ds) else .no
def pLst (q : Ev → Rs (List D)) : Ev → Rs D := fun ρ => (q ρ).bind fun ds => if ds.length ≤ sizeLine then .ok (.lst ds) else .no
theorem xe_tup {es : List Expr} {k : Nat} {pos : Pos} {q : Ev → Rs (List D)} (h : XA X E W es q) : XE X E W (.Tuple es k pos) (pTup q) := by
  obtain ⟨t, h1, h2⟩ := h
  refine ⟨_, fun i => pe_tup (h1 i), fun B F H σ ρ Q s sb r post => ?_⟩
  show t σ H _
  refine Evals.seq h2 s sb r post fun F1 H1 ds vs e1 x1 sb1 r1 gg post1 => ?_
  by_cases c : ds.length ≤ sizeLine
  · rw [if_pos c] at post1
    exact ⟨by rw [← gg.len]; exact c, fun p hp => post1 _ _ _ (Ext.new x1.fh hp) (gs_newT x1.fh hp gg)⟩
  · rw [if_neg c] at post1; exact post1.elim
theorem gn_newL {H0 F H : Hp} {p : Addr} {ds : List D} {vs : List V} (s : Same F H) (h0 : Same H0 H) (hp : H p = none) (h : RepL E F ds vs) : GN E H0 F (upd H p (.lst vs)) (.lst ds) (.ref p) :=
  ⟨p, _, rfl, h0.free hp, s.free hp, upd_same, vs, rfl, h⟩
theorem xn_lst {es : List Expr} {pos : Pos} {q : Ev → Rs (List D)} (h : XA X E W es q) : XN X E W (.List es pos) (pLst q) := by
  obtain ⟨t, h1, h2⟩ := h
  refine ⟨_, fun i => pe_lst (h1 i), fun B F H σ ρ Q s sb r post => ?_⟩
  show t σ H _
  have post' := post
  refine Evals.seq (G2 := fun F' H' a b => GN E H F' H' a b) h2 s sb r post fun F1 H1 ds vs e1 x1 sb1 r1 gg post1 => ?_
  by_cases c : ds.length ≤ sizeLine
  · rw [if_pos c] at post1
    exact ⟨by rw [← gg.len]; exact c, fun p hp => post1 _ _ _ (Ext.newH x1.fh hp) (gn_newL x1.fh x1.h hp gg)⟩
  · rw [if_neg c] at post1; exact post1.elim

/-! ## built-ins by their names -/
/-- r does f to loose data; N: what it hands out -/
def CalS (E : Am) (G : Hp → Hp → Hp → D → V → Prop) (r : List V → Hp → VK → Prop) (f : List D → Rs D) : Prop :=
  ∀ (W : WX) (F H : Hp) (σ : L2.St) (ds : List D) (vs : List V) (Q : VK), Same F H → RepOL E F H ds vs → Post E W σ F H (G H) Q (f ds) → r vs H Q
def pCall (f : List D → Rs D) (q : Ev → Rs (List D)) : Ev → Rs D := fun ρ => (q ρ).bind f
theorem evals_cb {G : Hp → Hp → Hp → D → V → Prop} (hG : ∀ {F H F1 H1 F' H' d v}, Ext F H F1 H1 → G H1 F' H' d v → G H F' H' d v) {r : List V → Hp → VK → Prop} {f : List D → Rs D} {t : TA} {q : Ev → Rs (List D)} (hr : CalS E G r f) (h : Evals E W (GAL E) t q) : Evals E W G (tCB r t) (pCall f q) := by
  intro B F H σ ρ Q s sb r0 post
  show t σ H _
  refine Evals.seq h s sb r0 post fun F1 H1 ds vs e1 x1 sb1 r1 gg post1 => ?_
  exact hr W F1 H1 σ ds vs Q x1.fh gg (Post.imp post1 fun _ _ _ _ _ g => hG x1 g)
theorem gn_back {F H F1 H1 F' H' : Hp} {d : D} {v : V} (x : Ext F H F1 H1) (g : GN E H1 F' H' d v) : GN E H F' H' d v := by
  obtain ⟨l, ho, h1, h2, h3, h4, h5⟩ := g
  exact ⟨l, ho, h1, x.h.free h2, h3, h4, h5⟩
theorem xe_callB {x : Str} {id : String} {p pos : Pos} {e : Expr} {es : List Expr} {r : List V → Hp → VK → Prop} {f : List D → Rs D} {q : Ev → Rs (List D)} (hc : ∀ i, CallR (X i) (.builtin id) r) (hr : CalS E (GS E) r f) (hg : ∀ i, Gl (X i) x) (hm : ∀ i, (X i).mg x = none) (hv : bootBuiltins x = some (.builtin id)) (ha : XAL X E W (e :: es) q)
    (hn : x ≠ "__name__" := by decide) (hdb : (x == ("__debug__" : Str)) = false := by decide) (he : ∀ i, starEach (e :: es) (X i).env = (false, eval e (X i).env) :: starEach es (X i).env := by intro _; rfl) (hpl : ∀ i, (backTo pos (starEach es (X i).env)).any (·.1) = false := by intro _; rfl) : XE X E W (.Call (.Name x p) (e :: es) [] pos) (pCall f q) := by
  obtain ⟨t, a1, a2⟩ := ha
  exact ⟨_, fun i => pe_callB (hc i) (hg i) (hm i) hv (a1 i) hn hdb (he i) (hpl i), evals_cb (fun _ g => g) hr a2⟩
theorem xn_callB {x : Str} {id : String} {p pos : Pos} {e : Expr} {es : List Expr} {r : List V → Hp → VK → Prop} {f : List D → Rs D} {q : Ev → Rs (List D)} (hc : ∀ i, CallR (X i) (.builtin id) r) (hr : CalS E (GN E) r f) (hg : ∀ i, Gl (X i) x) (hm : ∀ i, (X i).mg x = none) (hv : bootBuiltins x = some (.builtin id)) (ha : XAL X E W (e :: es) q)
    (hn : x ≠ "__name__" := by decide) (hdb : (x == ("__debug__" : Str)) = false := by decide) (he : ∀ i, starEach (e :: es) (X i).env = (false, eval e (X i).env) :: starEach es (X i).env := by intro _; rfl) (hpl : ∀ i, (backTo pos (starEach es (X i).env)).any (·.1) = false := by intro _; rfl) : XN X E W (.Call (.Name x p) (e :: es) [] pos) (pCall f q) := by
  obtain ⟨t, a1, a2⟩ := ha
  exact ⟨_, fun i => pe_callB (hc i) (hg i) (hm i) hv (a1 i) hn hdb (he i) (hpl i), evals_cb (G := GN E) (fun x g => gn_back x g) hr a2⟩
theorem xe_callTy {x : Str} {T : String} {p pos : Pos} {e : Expr} {es : List Expr} {r : List V → Hp → VK → Prop} {f : List D → Rs D} {q : Ev → Rs (List D)} (hc : ∀ i, CallR (X i) (.type T) r) (hr : CalS E (GS E) r f) (hg : ∀ i, Gl (X i) x) (hm : ∀ i, (X i).mg x = none) (hv : bootBuiltins x = some (.type T)) (ha : XAL X E W (e :: es) q)
    (hn : x ≠ "__name__" := by decide) (hdb : (x == ("__debug__" : Str)) = false := by decide) (he : ∀ i, starEach (e :: es) (X i).env = (false, eval e (X i).env) :: starEach es (X i).env := by intro _; rfl) (hpl : ∀ i, (backTo pos (starEach es (X i).env)).any (·.1) = false := by intro _; rfl) : XE X E W (.Call (.Name x p) (e :: es) [] pos) (pCall f q) := by
  obtain ⟨t, a1, a2⟩ := ha
  exact ⟨_, fun i => pe_callTy (hc i) (hg i) (hm i) hv (a1 i) hn hdb (he i) (hpl i), evals_cb (fun _ g => g) hr a2⟩
theorem xn_callTy {x : Str} {T : String} {p pos : Pos} {e : Expr} {es : List Expr} {r : List V → Hp → VK → Prop} {f : List D → Rs D} {q : Ev → Rs (List D)} (hc : ∀ i, CallR (X i) (.type T) r) (hr : CalS E (GN E) r f) (hg : ∀ i, Gl (X i) x) (hm : ∀ i, (X i).mg x = none) (hv : bootBuiltins x = some (.type T)) (ha : XAL X E W (e :: es) q)
    (hn : x ≠ "__name__" := by decide) (hdb : (x == ("__debug__" : Str)) = false := by decide) (he : ∀ i, starEach (e :: es) (X i).env = (false, eval e (X i).env) :: starEach es (X i).env := by intro _; rfl) (hpl : ∀ i, (backTo pos (starEach es (X i).env)).any (·.1) = false := by intro _; rfl) : XN X E W (.Call (.Name x p) (e :: es) [] pos) (pCall f q) := by
  obtain ⟨t, a1, a2⟩ := ha
  exact ⟨_, fun i => pe_callTy (hc i) (hg i) (hm i) hv (a1 i) hn hdb (he i) (hpl i), evals_cb (G := GN E) (fun x g => gn_back x g) hr a2⟩
theorem xe_callBfun {x : Str} {id : String} {p pos : Pos} {e : Expr} {es : List Expr} {r : List V → Hp → VK → Prop} {f : List D → Rs D} {q : Ev → Rs (List D)} (hc : ∀ i, CallR (X i) (.builtin id) r) (hr : CalS E (GS E) r f) (hg : ∀ i, Gl (X i) x) (hm : ∀ i, (X i).mg x = some (.builtin id)) (ha : XAL X E W (e :: es) q)
    (hdb : (x == ("__debug__" : Str)) = false := by decide) (he : ∀ i, starEach (e :: es) (X i).env = (false, eval e (X i).env) :: starEach es (X i).env := by intro _; rfl) (hpl : ∀ i, (backTo pos (starEach es (X i).env)).any (·.1) = false := by intro _; rfl) : XE X E W (.Call (.Name x p) (e :: es) [] pos) (pCall f q) := by
  obtain ⟨t, a1, a2⟩ := ha
  exact ⟨_, fun i => pe_callBfun (hc i) (hg i) (hm i) (a1 i) hdb (he i) (hpl i), evals_cb (fun _ g => g) hr a2⟩
theorem rol1 {F H : Hp} {d : D} {vs : List V} (h : RepOL E F H [d] vs) : ∃ v, vs = [v] ∧ RepO E F H d v := by
  obtain ⟨v, r, rfl, h1, h2⟩ := h
  cases h2
  exact ⟨v, rfl, h1⟩
theorem rol2 {F H : Hp} {d e : D} {vs : List V} (h : RepOL E F H [d, e] vs) : ∃ v u, vs = [v, u] ∧ RepO E F H d v ∧ RepO E F H e u := by
  obtain ⟨v, r, rfl, h1, h2⟩ := h
  obtain ⟨u, rfl, h3⟩ := rol1 h2
  exact ⟨v, u, rfl, h1, h3⟩
def fLen : List D → Rs D
  | [.str x] => if x.length ≤ sizeLine then .ok (.int x.length) else .no
  | [d] => match items d with | some ds => .ok (.int ds.length) | none => .no
  | _ => .no
theorem call_lenA : CallR Y (.builtin "len") (fun xs H Q => (∃ z, xs = [.str z] ∧ z.length ≤ sizeLine ∧ Q (.int z.length) H) ∨ (∃ p ys, xs = [.ref p] ∧ (SqL Y.K H p ys ∨ SqT Y.K H p ys) ∧ Q (.int ys.length) H)) := call_len_str.or call_len_seq
theorem cals_len : CalS E (GS E) (fun xs H Q => (∃ z, xs = [.str z] ∧ z.length ≤ sizeLine ∧ Q (.int z.length) H) ∨ (∃ p ys, xs = [.ref p] ∧ (SqL E.K H p ys ∨ SqT E.K H p ys) ∧ Q (.int ys.length) H)) fLen := by
  intro W F H σ ds vs Q s h post
  unfold fLen at post
  split at post
  · rename_i x
    obtain ⟨v, rfl, h1⟩ := rol1 h
    by_cases c : x.length ≤ sizeLine
    · rw [if_pos c] at post
      cases repO_str h1
      exact .inl ⟨x, rfl, c, ev_ok s post rfl⟩
    · rw [if_neg c] at post; exact post.elim
  · split at post
    · rename_i es e
      obtain ⟨v, rfl, h1⟩ := rol1 h
      obtain ⟨a, vs, rfl, q1, q2⟩ := repO_seq s e h1
      refine .inr ⟨a, vs, rfl, q1, ?_⟩
      refine ev_ok s post ?_
      rw [q2.len]; rfl
    · exact post.elim
  · exact post.elim
def fAbs : List D → Rs D | [.int i] => .ok (.int (if i < 0 then -i else i)) | _ => .no
theorem cals_abs : CalS E (GS E) (fun xs H Q => ∃ i, xs = [.int i] ∧ Q (.int (if i < 0 then -i else i)) H) fAbs := by
  intro W F H σ ds vs Q s h post
  unfold fAbs at post
  split at post
  · obtain ⟨v, rfl, h1⟩ := rol1 h
    cases repO_int h1
    exact ⟨_, rfl, ev_ok s post rfl⟩
  · exact post.elim
def fInt : List D → Rs D | [.int i] => .ok (.int i) | [.bl k] => .ok (.int (if k then 1 else 0)) | _ => .no
theorem cals_int : CalS E (GS E) (fun xs H Q => (∃ i, xs = [.int i] ∧ Q (.int i) H) ∨ ∃ k, xs = [.bl k] ∧ Q (.int (if k then 1 else 0)) H) fInt := by
  intro W F H σ ds vs Q s h post
  unfold fInt at post
  split at post
  · obtain ⟨v, rfl, h1⟩ := rol1 h
    cases repO_int h1
    exact .inl ⟨_, rfl, ev_ok s post rfl⟩
  · obtain ⟨v, rfl, h1⟩ := rol1 h
    cases repO_bl h1
    exact .inr ⟨_, rfl, ev_ok s post rfl⟩
  · exact post.elim
def fMax2 : List D → Rs D | [.int i, .int j] => .ok (.int (if j > i then j else i)) | _ => .no
def fMin2 : List D → Rs D | [.int i, .int j] => .ok (.int (if j < i then j else i)) | _ => .no
theorem cals_max2 : CalS E (GS E) (fun xs H Q => ∃ i j, xs = [.int i, .int j] ∧ Q (.int (if j > i then j else i)) H) fMax2 := by
  intro W F H σ ds vs Q s h post
  unfold fMax2 at post
  split at post
  · obtain ⟨v, u, rfl, h1, h2⟩ := rol2 h
    cases repO_int h1
    cases repO_int h2
    exact ⟨_, _, rfl, ev_ok s post rfl⟩
  · exact post.elim
theorem cals_min2 : CalS E (GS E) (fun xs H Q => ∃ i j, xs = [.int i, .int j] ∧ Q (.int (if j < i then j else i)) H) fMin2 := by
  intro W F H σ ds vs Q s h post
  unfold fMin2 at post
  split at post
  · obtain ⟨v, u, rfl, h1, h2⟩ := rol2 h
    cases repO_int h1
    cases repO_int h2
    exact ⟨_, _, rfl, ev_ok s post rfl⟩
  · exact post.elim
def fGcd : List D → Rs D | [.int i, .int j] => .ok (.int ((Nat.gcd i.natAbs j.natAbs : Nat) : Int)) | _ => .no
theorem cals_gcd : CalS E (GS E) rGcd fGcd := by
  intro W F H σ ds vs Q s h post
  unfold fGcd at post
  split at post
  · obtain ⟨v, u, rfl, h1, h2⟩ := rol2 h
    cases repO_int h1
    cases repO_int h2
    exact ⟨_, _, rfl, ev_ok s post rfl⟩
  · exact post.elim
/-! sums, all, any -/
def intsOf : List D → Option (List Int)
  | [] => some []
  | .int i :: r => (intsOf r).map (i :: ·)
  | _ => none
def blsOf : List D → Option (List Bool)
  | [] => some []
  | .bl i :: r => (blsOf r).map (i :: ·)
  | _ => none
theorem repL_ints {F : Hp} : ∀ {ds : List D} {ns : List Int} {vs : List V}, intsOf ds = some ns → RepL E F ds vs → vs = ns.map V.int
  | [], ns, vs, e, h => by cases e; cases h; rfl
  | d :: ds, ns, vs, e, h => by
    cases d <;> simp only [intsOf] at e <;> first | contradiction | skip
    rename_i i
    obtain ⟨ms, e1, e2⟩ := Option.map_eq_some_iff.mp e
    obtain ⟨v, r, rfl, h1, h2⟩ := h
    cases h1
    subst e2
    rw [repL_ints e1 h2]; rfl
theorem repL_bls {F : Hp} : ∀ {ds : List D} {ns : List Bool} {vs : List V}, blsOf ds = some ns → RepL E F ds vs → vs = ns.map V.bl
  | [], ns, vs, e, h => by cases e; cases h; rfl
  | d :: ds, ns, vs, e, h => by
    cases d <;> simp only [blsOf] at e <;> first | contradiction | skip
    rename_i i
    obtain ⟨ms, e1, e2⟩ := Option.map_eq_some_iff.mp e
    obtain ⟨v, r, rfl, h1, h2⟩ := h
    cases h1
    subst e2
    rw [repL_bls e1 h2]; rfl
def itemsL : D → Option (List D) | .lst ds => some ds | .kl ds => some ds | _ => none
theorem itemsL_items {d : D} {ds : List D} (e : itemsL d = some ds) : items d = some ds ∧ isTup d = false := by
  cases d <;> simp [itemsL] at e <;> subst e <;> exact ⟨rfl, rfl⟩
theorem repO_list {F H : Hp} (s : Same F H) {d : D} {ds : List D} {v : V} (e : itemsL d = some ds) (h : RepO E F H d v) : ∃ a vs, v = .ref a ∧ SqL E.K H a vs ∧ RepL E F ds vs := by
  obtain ⟨e1, e2⟩ := itemsL_items e
  obtain ⟨a, vs, h1, h2, h3⟩ := repO_items s e1 h
  rw [e2] at h2
  exact ⟨a, vs, h1, h2, h3⟩
def fSum : List D → Rs D
  | [d] => (match itemsL d with | some ds => (match intsOf ds with | some ns => .ok (.int ns.sum) | none => .no) | none => .no)
  | _ => .no
def fAny : List D → Rs D
  | [d] => (match itemsL d with | some ds => (match blsOf ds with | some ns => .ok (.bl (ns.any id)) | none => .no) | none => .no)
  | _ => .no
def fAll : List D → Rs D
  | [d] => (match itemsL d with | some ds => (match blsOf ds with | some ns => .ok (.bl (ns.all id)) | none => .no) | none => .no)
  | _ => .no
theorem cals_sum : CalS E (GS E) (rSum E.K) fSum := by
  intro W F H σ ds vs Q s h post
  unfold fSum at post
  split at post
  · split at post
    · split at post
      · rename_i es e _ ns en
        obtain ⟨v, rfl, h1⟩ := rol1 h
        obtain ⟨a, us, rfl, q1, q2⟩ := repO_list s e h1
        rw [repL_ints en q2] at q1
        exact ⟨a, ns, rfl, q1, ev_ok s post rfl⟩
      · exact post.elim
    · exact post.elim
  · exact post.elim
theorem cals_any : CalS E (GS E) (rAny E.K) fAny := by
  intro W F H σ ds vs Q s h post
  unfold fAny at post
  split at post
  · split at post
    · split at post
      · rename_i es e _ ns en
        obtain ⟨v, rfl, h1⟩ := rol1 h
        obtain ⟨a, us, rfl, q1, q2⟩ := repO_list s e h1
        rw [repL_bls en q2] at q1
        exact ⟨a, ns, rfl, q1, ev_ok s post rfl⟩
      · exact post.elim
    · exact post.elim
  · exact post.elim
theorem cals_all : CalS E (GS E) (rAll E.K) fAll := by
  intro W F H σ ds vs Q s h post
  unfold fAll at post
  split at post
  · split at post
    · split at post
      · rename_i es e _ ns en
        obtain ⟨v, rfl, h1⟩ := rol1 h
        obtain ⟨a, us, rfl, q1, q2⟩ := repO_list s e h1
        rw [repL_bls en q2] at q1
        exact ⟨a, ns, rfl, q1, ev_ok s post rfl⟩
      · exact post.elim
    · exact post.elim
  · exact post.elim
/-! list(..), tuple(..) -/
def fList : List D → Rs D
  | [d] => (match items d with | some ds => .ok (.lst ds) | none => .no)
  | _ => .no
theorem cals_list : CalS E (GN E) (fun xs H Q => ∃ p ys, xs = [.ref p] ∧ (SqL E.K H p ys ∨ SqT E.K H p ys) ∧ ∀ l, H l = none → Q (.ref l) (upd H l (.lst ys))) fList := by
  intro W F H σ ds vs Q s h post
  unfold fList at post
  split at post
  · split at post
    · rename_i es e
      obtain ⟨v, rfl, h1⟩ := rol1 h
      obtain ⟨a, us, rfl, q1, q2⟩ := repO_seq s e h1
      exact ⟨a, us, rfl, q1, fun l hl => post _ _ _ (Ext.newH s hl) (gn_newL s (Same.refl H) hl q2)⟩
    · exact post.elim
  · exact post.elim
def fTuple : List D → Rs D
  | [d] => (match items d with | some ds => .ok (.tup ds) | none => .no)
  | _ => .no
theorem cals_tuple : CalS E (GS E) (fun xs H Q => ∃ p ys, xs = [.ref p] ∧ ((SqL E.K H p ys ∧ ∀ l, H l = none → Q (.ref l) (upd H l (.tup ys))) ∨ (SqT E.K H p ys ∧ Q (.ref p) H))) fTuple := by
  intro W F H σ ds vs Q s h post
  unfold fTuple at post
  split at post
  · rename_i d
    split at post
    · rename_i es e
      obtain ⟨v, rfl, h1⟩ := rol1 h
      by_cases t : isTup d = true
      · cases d <;> simp [isTup] at t
        cases e
        obtain ⟨a, us, rfl, q1, q2⟩ := repO_tup h1
        exact ⟨a, us, rfl, .inr ⟨sqT_mono s q1, ev_ok s post ⟨a, us, rfl, q1, q2⟩⟩⟩
      · obtain ⟨a, us, rfl, q1, q2⟩ := repO_items s e h1
        rw [if_neg t] at q1
        exact ⟨a, us, rfl, .inl ⟨q1, fun l hl => post _ _ _ (Ext.new s hl) (gs_newT s hl q2)⟩⟩
    · exact post.elim
  · exact post.elim
end DL
end

section
set_option linter.all false
set_option maxRecDepth 100000
set_option maxHeartbeats 4000000
namespace DL
open PySem PySem.Spec L2
variable {I : Type} {X : I → Cx} {Y : Cx} {E : Am} {W : WX}

/-! ## subscripts -/
def fIx : D → D → Rs D
  | .str z, .int i => if z.length ≤ sizeLine then (match atI z.cps.toList i with | some c => .ok (.str ⟨#[c]⟩) | none => .no) else .no
  | d, .int i => (match items d with | some ds => (match atI ds i with | some x => .ok x | none => .no) | none => .no)
  | _, _ => .no
theorem repL_at {F : Hp} {ds : List D} {vs : List V} {i : Int} {d : D} (h : RepL E F ds vs) (e : atI ds i = some d) : ∃ v, atI vs i = some v ∧ Rep E F d v := by
  unfold atI at e ⊢
  rw [← h.len]
  cases q : ixN ds.length i with
  | none => rw [q] at e; cases e
  | some j =>
    rw [q] at e
    exact h.get e
theorem ops_ix : OpS E (rIx E.K) fIx := by
  intro W F H σ dx dy x y Q s h1 h2 post
  unfold fIx at post
  split at post
  · rename_i z i
    by_cases c : z.length ≤ sizeLine
    · rw [if_pos c] at post
      split at post
      · rename_i ch e
        exact .inr (.inr ⟨z, i, ch, repO_str h1, repO_int h2, c, e, ev_ok s post rfl⟩)
      · exact post.elim
    · rw [if_neg c] at post; exact post.elim
  · rename_i i _
    split at post
    · rename_i ds e
      split at post
      · rename_i d ed
        obtain ⟨a, vs, rfl, q1, q2⟩ := repO_items s e h1
        obtain ⟨v, e1, e2⟩ := repL_at q2 ed
        by_cases t : isTup dx = true
        · rw [if_pos t] at q1
          exact .inr (.inl ⟨a, vs, i, v, rfl, repO_int h2, q1, e1, ev_ok s post e2⟩)
        · rw [if_neg t] at q1
          exact .inl ⟨a, vs, i, v, rfl, repO_int h2, q1, e1, ev_ok s post e2⟩
      · exact post.elim
    · exact post.elim
  · exact post.elim
theorem xe_ix {a b : Expr} {pos : Pos} {pa pb : Ev → Rs D} {k : Nat} (c : Ctx X E W k) (ha : XL X E W a pa) (hb : XL X E W b pb) (hs : PlainIx b := by exact fun _ _ => rfl) : XE X E W (.Subscript a b pos) (pBin fIx pa pb) := by
  obtain ⟨ta, a1, a2⟩ := ha
  obtain ⟨tb, b1, b2⟩ := hb
  exact ⟨tOp (rIx E.K) ta tb, fun i => by rw [← c.K i]; exact pe_ix ix_seq (a1 i) (b1 i) hs, evals_op ops_ix a2 b2⟩
/-! slices -/
def XO {I : Type} (X : I → Cx) (E : Am) (W : WX) (e : Option Expr) (p : Ev → Rs (Option Int)) : Prop := ∃ t, (∀ i, PO (X i) e t) ∧ Evals E W (fun _ _ _ a b => a = b) t p
def pNo : Ev → Rs (Option Int) := fun _ => .ok none
def pPart (p : Ev → Rs D) : Ev → Rs (Option Int) := fun ρ => (p ρ).bind fun d => match d with | .int i => .ok (some i) | _ => .no
theorem xo_none : XO X E W none pNo := ⟨_, fun _ => po_none, fun B F H σ ρ Q s sb r post => ev_ok s post rfl⟩
theorem xo_some {e : Expr} {p : Ev → Rs D} (h : XL X E W e p) : XO X E W (some e) (pPart p) := by
  obtain ⟨t, h1, h2⟩ := h
  refine ⟨_, fun i => po_some (h1 i), fun B F H σ ρ Q s sb r post => ?_⟩
  show t σ H _
  refine Evals.seq h2 s sb r post fun F1 H1 d v e1 x1 sb1 r1 gg post1 => ?_
  cases d <;> first | exact post1.elim | skip
  exact ⟨_, repO_int gg, ev_ok x1.fh post1 rfl⟩
def cutD {α : Type} (xs : List α) (lo hi : Option Int) : List α := (xs.drop (HT.sIx xs.length 0 lo)).take (HT.sIx xs.length xs.length hi - HT.sIx xs.length 0 lo)
theorem repL_cut {F : Hp} {ds : List D} {vs : List V} (h : RepL E F ds vs) (lo hi : Option Int) : RepL E F (cutD ds lo hi) (cutV vs lo hi) := by
  unfold cutD cutV
  rw [h.len]
  exact (h.drop _).take _
def fSlL (d : D) (lo hi : Option Int) : Rs D := match itemsL d with | some ds => .ok (.lst (cutD ds lo hi)) | none => .no
def fSlS (d : D) (lo hi : Option Int) : Rs D := match d with
  | .str z => if z.length ≤ sizeLine then .ok (.str (cutS z lo hi)) else .no
  | .tup ds => if HT.sIx ds.length 0 lo = 0 ∧ HT.sIx ds.length ds.length hi = ds.length then .no else .ok (.tup (cutD ds lo hi))
  | _ => .no
def pSl (f : D → Option Int → Option Int → Rs D) (p : Ev → Rs D) (l h : Ev → Rs (Option Int)) : Ev → Rs D := fun ρ => (p ρ).bind fun d => (l ρ).bind fun lo => (h ρ).bind fun hi => f d lo hi
theorem xn_sl {e : Expr} {lo hi : Option Expr} {pos p2 : Pos} {p : Ev → Rs D} {l h : Ev → Rs (Option Int)} {k : Nat} (c : Ctx X E W k) (he : XL X E W e p) (hl : XO X E W lo l) (hh : XO X E W hi h) : XN X E W (.Subscript e (.Slice lo hi none p2) pos) (pSl fSlL p l h) := by
  obtain ⟨t, h1, h2⟩ := he
  obtain ⟨tl, l1, l2⟩ := hl
  obtain ⟨th, u1, u2⟩ := hh
  refine ⟨tSl (rSlL E.K) t tl th, fun i => by rw [← c.K i]; exact pe_slice sl_list (h1 i) (l1 i) (u1 i), ?_⟩
  intro B F H σ ρ Q s sb r post
  show t σ H _
  refine Evals.seq (G2 := fun F' H' a b => GN E H F' H' a b) h2 s sb r post fun F1 H1 d v e1 x1 sb1 r1 gg post1 => ?_
  show tl σ H1 _
  refine Evals.seq (G2 := fun F' H' a b => GN E H F' H' a b) l2 x1.fh sb1 r1 post1 fun F2 H2 o o' e2 x2 sb2 r2 g2 post2 => ?_
  cases g2
  show th σ H2 _
  refine Evals.seq (G2 := fun F' H' a b => GN E H F' H' a b) u2 x2.fh sb2 r2 post2 fun F3 H3 o2 o2' e3 x3 sb3 r3 g3 post3 => ?_
  cases g3
  unfold fSlL at post3
  split at post3
  · rename_i ds ed
    obtain ⟨a, vs, rfl, q1, q2⟩ := repO_list x3.fh ed ((gg.mono x2).mono x3)
    exact ⟨a, vs, rfl, q1, fun p hp => post3 _ _ _ (Ext.newH x3.fh hp) (gn_newL x3.fh ((x1.trans x2).trans x3).h hp (repL_cut q2 _ _))⟩
  · exact post3.elim
def rSlA (K : PySem.W.Frag) : V → Option Int → Option Int → Hp → VK → Prop := fun x lo hi H Q => rSlS x lo hi H Q ∨ rSlT K x lo hi H Q
theorem xe_sl {e : Expr} {lo hi : Option Expr} {pos p2 : Pos} {p : Ev → Rs D} {l h : Ev → Rs (Option Int)} {k : Nat} (c : Ctx X E W k) (he : XL X E W e p) (hl : XO X E W lo l) (hh : XO X E W hi h) : XE X E W (.Subscript e (.Slice lo hi none p2) pos) (pSl fSlS p l h) := by
  obtain ⟨t, h1, h2⟩ := he
  obtain ⟨tl, l1, l2⟩ := hl
  obtain ⟨th, u1, u2⟩ := hh
  refine ⟨tSl (rSlA E.K) t tl th, fun i => by rw [← c.K i]; exact pe_slice (sl_str.or sl_tup) (h1 i) (l1 i) (u1 i), ?_⟩
  intro B F H σ ρ Q s sb r post
  show t σ H _
  refine Evals.seq h2 s sb r post fun F1 H1 d v e1 x1 sb1 r1 gg post1 => ?_
  show tl σ H1 _
  refine Evals.seq l2 x1.fh sb1 r1 post1 fun F2 H2 o o' e2 x2 sb2 r2 g2 post2 => ?_
  cases g2
  show th σ H2 _
  refine Evals.seq u2 x2.fh sb2 r2 post2 fun F3 H3 o2 o2' e3 x3 sb3 r3 g3 post3 => ?_
  cases g3
  have gg := (gg.mono x2).mono x3
  cases d with
  | str z =>
    have post3 : Post E W σ F3 H3 (GS E H3) Q (if z.length ≤ sizeLine then .ok (.str (cutS z o o2)) else .no) := post3
    by_cases c : z.length ≤ sizeLine
    · rw [if_pos c] at post3
      exact .inl ⟨z, repO_str gg, c, ev_ok x3.fh post3 rfl⟩
    · rw [if_neg c] at post3; exact post3.elim
  | tup ds =>
    have post3 : Post E W σ F3 H3 (GS E H3) Q (if HT.sIx ds.length 0 o = 0 ∧ HT.sIx ds.length ds.length o2 = ds.length then .no else .ok (.tup (cutD ds o o2))) := post3
    by_cases c : HT.sIx ds.length 0 o = 0 ∧ HT.sIx ds.length ds.length o2 = ds.length
    · rw [if_pos c] at post3; exact post3.elim
    · rw [if_neg c] at post3
      obtain ⟨a, vs, rfl, q1, q2⟩ := repO_tup gg
      refine .inr ⟨a, vs, rfl, sqT_mono x3.fh q1, by rw [← q2.len]; exact c, fun p hp => post3 _ _ _ (Ext.new x3.fh hp) (gs_newT x3.fh hp (repL_cut q2 _ _))⟩
  | _ => exact post3.elim

/-! ## fields -/
/-- what the walk asks of a class: its own methods' way of reading, no class attribute of these names -/
structure ClsOk (E : Am) (C : Str) (fs : List Str) : Prop where
  cl : Cls E.K (E.cl C)
  no : ∀ f ∈ fs, NoAttr E.K (E.cl C) f
def lookD (f : Str) : List Str → List D → Option D
  | n :: ns, d :: ds => if f = n then some d else lookD f ns ds
  | _, _ => none
theorem look_rep {F : Hp} {f : Str} {d : D} : ∀ {ns : List Str} {ds : List D} {vs : List V}, RepL E F ds vs → lookD f ns ds = some d → ∃ v, (ns.zip vs).lookup f = some v ∧ Rep E F d v
  | [], ds, vs, h, e => by simp [lookD] at e
  | n :: ns, [], vs, h, e => by simp [lookD] at e
  | n :: ns, x :: ds, vs, h, e => by
    obtain ⟨v, r, rfl, h1, h2⟩ := h
    unfold lookD at e
    by_cases q : f = n
    · rw [if_pos q] at e; cases e
      subst q
      exact ⟨v, by simp [List.lookup], h1⟩
    · rw [if_neg q] at e
      obtain ⟨u, e1, e2⟩ := look_rep h2 e
      refine ⟨u, ?_, e2⟩
      have qb : (f == n) = false := by simpa using q
      show (match f == n with | true => some v | false => (ns.zip r).lookup f) = some u
      rw [qb]; exact e1
theorem look_none {f : Str} : ∀ {ns : List Str} {vs : List V}, f ∉ ns → (ns.zip vs).lookup f = none
  | [], vs, h => rfl
  | n :: ns, [], h => rfl
  | n :: ns, v :: vs, h => by
    have qb : (f == n) = false := by
      have : f ≠ n := fun z => h (by rw [z]; exact List.mem_cons_self)
      simpa using this
    show (match f == n with | true => some v | false => (ns.zip vs).lookup f) = none
    rw [qb]; exact look_none fun z => h (List.mem_cons_of_mem _ z)
def fFld (C f : Str) : D → Rs D
  | .ins C' ns ds => if C' = C then (match lookD f ns ds with | some d => .ok d | none => .no) else .no
  | _ => .no
theorem repO_ins {F H : Hp} (s : Same F H) {C : Str} {ns : List Str} {ds : List D} {v : V} (h : RepO E F H (.ins C ns ds) v) : ∃ a dx vs, v = .ref a ∧ H a = some (.ins (E.cl C) dx (ns.zip vs)) ∧ ns.length = ds.length ∧ RepL E F ds vs := by
  rcases h with ⟨a, dx, vs, h1, h2, h3, h4⟩ | ⟨l, ho, h1, h2, dx, vs, h3, h4, h5⟩
  · exact ⟨a, dx, vs, h1, s _ _ h2, h3, h4⟩
  · exact ⟨l, dx, vs, h1, by rw [h2, h3], h4, h5⟩
theorem xe_fld {e : Expr} {f C : Str} {fs : List Str} {pos : Pos} {p : Ev → Rs D} {k : Nat} (c : Ctx X E W k) (hc : ClsOk E C fs) (hf : f ∈ fs) (h : XL X E W e p) (hb : ∀ i, attributeBase e f (X i).env (eval e (X i).env) = eval e (X i).env := by intro _; rfl) : XE X E W (.Attribute e f pos) (pUn (fFld C f) p) := by
  obtain ⟨t, h1, h2⟩ := h
  refine ⟨tFld E.K t f, fun i => by rw [← c.K i]; exact pe_fld (h1 i) (hb i), ?_⟩
  intro B F H σ ρ Q s sb r post
  show t σ H _
  refine Evals.seq h2 s sb r post fun F1 H1 d v e1 x1 sb1 r1 gg post1 => ?_
  unfold fFld at post1
  split at post1
  · rename_i C' ns ds
    by_cases c : C' = C
    · rw [if_pos c] at post1
      subst c
      split at post1
      · rename_i d' ed
        obtain ⟨a, dx, vs, rfl, q1, q2, q3⟩ := repO_ins x1.fh gg
        obtain ⟨v, e2, e3⟩ := look_rep q3 ed
        exact ⟨a, _, dx, _, v, rfl, q1, hc.cl, hc.no f hf, e2, ev_ok x1.fh post1 e3⟩
      · exact post1.elim
    · rw [if_neg c] at post1; exact post1.elim
  · exact post1.elim

/-! ## sorted -/
def alikeOk (ds : List D) : Bool := ds.all fun d => ds.all fun d' => PySem.W.alike (toPy d) (toPy d')
def tupOk : PyData → Bool | .tuple (_ :: _) => true | _ => false
def flatOk : PyData → Bool | .none => false | .tuple _ => false | _ => true
def sortOk (ds : List D) : Bool := alikeOk ds && (ds.all (fun d => tupOk (toPy d)) || ds.all (fun d => flatOk (toPy d))) && ds.all (fun d => shp d)
def dLe : D → D → Bool := PySem.W.dataLe false toPy
theorem each_vals : ∀ {zs : List (V × D)} {us : List Value}, Vals (zs.map Prod.fst) us → PySem.W.EachIs (fun v (b : V × D) => RelV b.1 v) us zs
  | [], us, h => by cases h; exact .nil
  | z :: zs, us, h => by cases h with | cons r t => exact .cons r (each_vals t)
theorem vals_each : ∀ {zs : List (V × D)} {us : List Value}, PySem.W.EachIs (fun v (b : V × D) => RelV b.1 v) us zs → Vals (zs.map Prod.fst) us
  | [], us, h => by cases h; exact .nil
  | z :: zs, us, h => by cases h with | cons r t => exact .cons r (vals_each t)
def rSrt (K : PySem.W.Frag) : List V → Hp → VK → Prop := fun vs H Q => ∃ (a : Addr) (zs : List (V × D)), vs = [.ref a] ∧ SqL K H a (zs.map Prod.fst) ∧ DpAll K H (zs.map Prod.fst) ((zs.map Prod.snd).map toPy) ∧
  PySem.W.AllAlike ((zs.map Prod.snd).map toPy) ∧ PySem.W.Sortable ((zs.map Prod.snd).map toPy) ∧ (∀ z ∈ zs, (toPy z.2).depth ≤ 64) ∧
  ∀ p, H p = none → Q (.ref p) (upd H p (.lst ((zs.mergeSort (PySem.W.dataLe false fun z => toPy z.2)).map Prod.fst)))
theorem cr_srt (hu : Y.A.units + 200 < cLine) : CallR Y (.builtin "sorted") (rSrt Y.K) := by
  intro pins s σ H vs us Q I r h
  obtain ⟨a, zs, rfl, hs, hd, h1, h2, h3, q⟩ := h
  obtain ⟨its, rv, hl, hz⟩ := I.list hs
  rw [Vals.ref1 r]
  obtain ⟨ws, rd⟩ := Dp.readsAll I _ _ _ hd rv
  have e1 : (zs.map Prod.snd).map toPy = zs.map fun z => toPy z.2 := by rw [List.map_map]; rfl
  rw [e1] at rd h1 h2
  rw [List.length_map] at hz
  refine PySem.W.sorted_data (bs := zs) (R := fun v (b : V × D) => RelV b.1 v) (enc := fun z => toPy z.2) hl.isList (each_vals rv) (PySem.W.readsAll_each _ rd) h1 h2 hz (fun b hb => by have := h3 b hb; omega) fun out ho eo => ?_
  obtain ⟨ep, he'⟩ := PyProof.Rows.sortedAll_at s.heap its out.toArray
  have hv := vals_each eo
  have hlen : ((zs.mergeSort (PySem.W.dataLe false fun z => toPy z.2)).map Prod.fst).length ≤ sizeLine := by rw [List.length_map, List.length_mergeSort]; exact hz
  exact ⟨.ref _, upd H (s.heap.objs.size + 1) (.lst ((zs.mergeSort (PySem.W.dataLe false fun z => toPy z.2)).map Prod.fst)), I.laid (t' := s.toks) (fun _ _ => PyProof.Rows.sortedAll_old) (Nat.le_succ _) ⟨hlen, out, ep, hv, he'⟩, rfl, q _ (I.hok.fresh (Nat.le_succ _))⟩
def fSorted : List D → Rs D
  | [d] => (match itemsL d with | some ds => if sortOk ds && decide (ds.length ≤ sizeLine) then .ok (.lst (ds.mergeSort dLe)) else .no | none => .no)
  | _ => .no
theorem repL_zip {F : Hp} : ∀ {ds : List D} {vs : List V}, RepL E F ds vs → (vs.zip ds).map Prod.fst = vs ∧ (vs.zip ds).map Prod.snd = ds ∧ ∀ z ∈ vs.zip ds, Rep E F z.2 z.1
  | [], vs, h => by cases h; exact ⟨rfl, rfl, fun z hz => by simp at hz⟩
  | d :: ds, vs, h => by
    obtain ⟨v, r, rfl, h1, h2⟩ := h
    obtain ⟨a, b, c⟩ := repL_zip h2
    refine ⟨by simp [a], by simp [b], fun z hz => ?_⟩
    rw [List.zip_cons_cons] at hz
    rcases List.mem_cons.mp hz with rfl | hz
    · exact h1
    · exact c z hz
theorem repL_of_all {F : Hp} : ∀ {zs : List (V × D)}, (∀ z ∈ zs, Rep E F z.2 z.1) → RepL E F (zs.map Prod.snd) (zs.map Prod.fst)
  | [], _ => rfl
  | z :: zs, h => .cons (h z List.mem_cons_self) (repL_of_all fun y hy => h y (List.mem_cons_of_mem _ hy))
theorem shpAll_lay : ∀ {ds : List D}, ds.all (fun d => shp d) = true → PyData.canLayAll0 (toPyL ds) = true
  | [], _ => rfl
  | d :: ds, h => by
    rw [List.all_cons, Bool.and_eq_true] at h
    show ((toPy d).canLay0 && PyData.canLayAll0 (toPyL ds)) = true
    rw [SeqAt.canLay_of_shaped h.1, shpAll_lay h.2]; rfl
theorem cals_sorted : CalS E (GN E) (rSrt E.K) fSorted := by
  intro W F H σ ds vs Q s h post
  unfold fSorted at post
  split at post
  · split at post
    · rename_i es e
      by_cases c : (sortOk es && decide (es.length ≤ sizeLine)) = true
      · rw [if_pos c] at post
        obtain ⟨c0, c9⟩ := Bool.and_eq_true_iff.mp c
        obtain ⟨c1, c2⟩ := Bool.and_eq_true_iff.mp c0
        obtain ⟨c3, c4⟩ := Bool.and_eq_true_iff.mp c1
        obtain ⟨v, rfl, h1⟩ := rol1 h
        obtain ⟨a, us, rfl, q1, q2⟩ := repO_list s e h1
        obtain ⟨z1, z2, z3⟩ := repL_zip q2
        have hd := RepL.dp s es us (shpAll_lay c2) q2
        rw [toPyL_map] at hd
        refine ⟨a, us.zip es, rfl, by rw [z1]; exact q1, by rw [z1, z2]; exact hd, ?_, ?_, ?_, fun p hp => ?_⟩
        · rw [z2]
          intro d hdm d' hdm'
          obtain ⟨x, hx, rfl⟩ := List.mem_map.mp hdm
          obtain ⟨y, hy, rfl⟩ := List.mem_map.mp hdm'
          exact List.all_eq_true.mp (List.all_eq_true.mp c3 x hx) y hy
        · rw [z2]
          rcases Bool.or_eq_true_iff.mp c4 with c5 | c5
          · refine .inl fun d hdm => ?_
            obtain ⟨x, hx, rfl⟩ := List.mem_map.mp hdm
            have := List.all_eq_true.mp c5 x hx
            cases q : toPy x <;> rw [q] at this <;> simp [tupOk] at this
            rename_i l
            cases l with
            | nil => simp at this
            | cons x r => exact ⟨x, r, rfl⟩
          · refine .inr fun d hdm => ?_
            obtain ⟨x, hx, rfl⟩ := List.mem_map.mp hdm
            have := List.all_eq_true.mp c5 x hx
            cases q : toPy x <;> rw [q] at this <;> simp [flatOk] at this <;> exact ⟨by simp, by simp⟩
        · intro z hz
          have hm : z.2 ∈ es := by rw [← z2]; exact List.mem_map_of_mem hz
          exact SeqAt.depth_of_shaped (List.all_eq_true.mp c2 z.2 hm)
        · refine post _ _ _ (Ext.newH s hp) (gn_newL s (Same.refl H) hp ?_)
          have e5 : es.mergeSort dLe = ((us.zip es).mergeSort (PySem.W.dataLe false fun z => toPy z.2)).map Prod.snd := by
            have e6 := List.map_mergeSort (r := PySem.W.dataLe false fun z : V × D => toPy z.2) (s := dLe) (f := Prod.snd) (l := us.zip es) (fun a _ b _ => rfl)
            rw [e6, z2]
          rw [e5]
          exact repL_of_all fun z hz => z3 z (List.mem_mergeSort.mp hz)
      · rw [if_neg c] at post; exact post.elim
    · exact post.elim
  · exact post.elim
end DL
end

section
set_option linter.all false
set_option maxRecDepth 100000
set_option maxHeartbeats 4000000
namespace DL
open PySem PySem.Spec L2
section
variable {I : Type} {X : I → Cx} {E : Am} {W : WX} {k : Nat} {a b d : Expr} {pos : Pos} {pa pb pd : Ev → Rs D}

/-! ## the operators by name -/
theorem xe_add (c : Ctx X E W k) (ha : XL X E W a pa) (hb : XL X E W b pb) : XE X E W (.BinOp a .Add b pos) (pBin fAdd pa pb) := xe_bin (fun i => by rw [← c.K i]; exact op_addA) ops_add ha hb
theorem xe_sub (c : Ctx X E W k) (ha : XL X E W a pa) (hb : XL X E W b pb) : XE X E W (.BinOp a .Sub b pos) (pBin fSub pa pb) := xe_bin (fun i => op_sub) ops_sub ha hb
theorem xe_mul (c : Ctx X E W k) (ha : XL X E W a pa) (hb : XL X E W b pb) : XE X E W (.BinOp a .Mult b pos) (pBin fMul pa pb) := xe_bin (fun i => op_mulA) ops_mul ha hb
theorem xe_div (c : Ctx X E W k) (ha : XL X E W a pa) (hb : XL X E W b pb) : XE X E W (.BinOp a .FloorDiv b pos) (pBin fDiv pa pb) := xe_bin (fun i => op_fdivW) ops_div ha hb
theorem xe_mod (c : Ctx X E W k) (ha : XL X E W a pa) (hb : XL X E W b pb) : XE X E W (.BinOp a .Mod b pos) (pBin fMod pa pb) := xe_bin (fun i => op_mod) ops_mod ha hb
theorem xe_pow (c : Ctx X E W k) (ha : XL X E W a pa) (hb : XL X E W b pb) : XE X E W (.BinOp a .Pow b pos) (pBin fPow pa pb) := xe_bin (fun i => op_pow) ops_pow ha hb
/-- a comparison's rule -/
def CmpR {I : Type} (X : I → Cx) (E : Am) (op : CmpOp) (f : D → D → Rs D) : Prop := ∃ r, (∀ i, OpR (X i) (compareOp op) r) ∧ OpS E r f
theorem cmp_lt (c : Ctx X E W k) : CmpR X E .Lt fLt := ⟨_, fun _ => op_lt, ops_lt⟩
theorem cmp_le (c : Ctx X E W k) : CmpR X E .LtE fLe := ⟨_, fun _ => op_le, ops_le⟩
theorem cmp_gt (c : Ctx X E W k) : CmpR X E .Gt fGt := ⟨_, fun _ => op_gt, ops_gt⟩
theorem cmp_ge (c : Ctx X E W k) : CmpR X E .GtE fGe := ⟨_, fun _ => op_ge, ops_ge⟩
theorem cmp_eq (c : Ctx X E W k) : CmpR X E .Eq fEq := ⟨_, fun i => by have := c.hu i; rw [← c.K i]; exact op_eqA (by omega), ops_eq⟩
theorem cmp_ne (c : Ctx X E W k) : CmpR X E .NotEq fNe := ⟨_, fun i => by have := c.hu i; rw [← c.K i]; exact op_neA (by omega), ops_ne⟩
theorem cmp_is (c : Ctx X E W k) : CmpR X E .Is fIs := ⟨_, fun _ => op_isN, ops_is⟩
theorem cmp_isNot (c : Ctx X E W k) : CmpR X E .IsNot fIsNot := ⟨_, fun _ => op_notN, ops_isNot⟩
theorem cmp_in (c : Ctx X E W k) : CmpR X E .In (fIn false) := ⟨_, fun i => by rw [← c.K i]; exact op_inA, ops_in⟩
theorem cmp_notIn (c : Ctx X E W k) : CmpR X E .NotIn (fIn true) := ⟨_, fun i => by rw [← c.K i]; exact op_notInA, ops_notIn⟩
theorem ye_cmp {op : CmpOp} {f : D → D → Rs D} (h : CmpR X E op f) (ha : XL X E W a pa) (hb : XL X E W b pb) (hm : behindInMarks op b = false) : XE X E W (.Compare a [op] [b] pos) (pBin f pa pb) := by
  obtain ⟨r, h1, h2⟩ := h
  exact xe_cmp h1 h2 ha hb hm
theorem yt_cmp {op : CmpOp} {f : D → D → Rs D} (h : CmpR X E op f) (ha : XL X E W a pa) (hb : XL X E W b pb) (hm : behindInMarks op b = false) : XT X E W (.Compare a [op] [b] pos) (fun ρ => (pBin f pa pb ρ).bind toB) := by
  obtain ⟨r, h1, h2⟩ := h
  exact xt_cmp h1 h2 ha hb hm
theorem ye_chain {op op' : CmpOp} {f f' : D → D → Rs D} (h : CmpR X E op f) (h' : CmpR X E op' f') (ha : XL X E W a pa) (hb : XL X E W b pb) (hd : XL X E W d pd) (hm : lastMarks [op, op'] [b, d] = false := by with_unfolding_all rfl) : XE X E W (.Compare a [op, op'] [b, d] pos) (pChain f f' pa pb pd) := by
  obtain ⟨r, h1, h2⟩ := h
  obtain ⟨r', h3, h4⟩ := h'
  exact xe_chain h1 h2 h3 h4 ha hb hd hm
theorem yt_chain {op op' : CmpOp} {f f' : D → D → Rs D} (h : CmpR X E op f) (h' : CmpR X E op' f') (ha : XL X E W a pa) (hb : XL X E W b pb) (hd : XL X E W d pd) (hm : lastMarks [op, op'] [b, d] = false := by with_unfolding_all rfl) : XT X E W (.Compare a [op, op'] [b, d] pos) (fun ρ => (pChain f f' pa pb pd ρ).bind toB) := by
  obtain ⟨r, h1, h2⟩ := h
  obtain ⟨r', h3, h4⟩ := h'
  exact xt_chain h1 h2 h3 h4 ha hb hd hm
end

/-! ## targets -/
def GTok (E : Am) (vs : List Nat) (g : TG) (pg : D → Ev → Option Ev) : Prop :=
  ∀ (B F H : Hp) (σ : L2.St) (ρ : Ev) (d : D) (v : V) (Q : L2.St → Hp → Prop) (ρ' : Ev), Same F H → StR E B F H σ ρ → Rep E F d v → pg d ρ = some ρ' →
    (∀ σ', StR E B F H σ' ρ' → σ'.length = σ.length → (∀ j, j ∉ vs → σ'[j]? = σ[j]?) → Q σ' H) → g v σ H Q
def XG {I : Type} (X : I → Cx) (E : Am) (tg : Expr) (vs : List Nat) (pg : D → Ev → Option Ev) : Prop := ∃ g, (∀ i, PG (X i) tg g) ∧ GTok E vs g pg
def gN (i : Nat) : D → Ev → Option Ev := fun d ρ => some (ρ.set i (.dat d))
def GTsok (E : Am) (vs : List Nat) (g : TGs) (pg : List D → Ev → Option Ev) : Prop :=
  ∀ (B F H : Hp) (σ : L2.St) (ρ : Ev) (ds : List D) (us : List V) (Q : L2.St → Hp → Prop) (ρ' : Ev), Same F H → StR E B F H σ ρ → RepL E F ds us → pg ds ρ = some ρ' →
    (∀ σ', StR E B F H σ' ρ' → σ'.length = σ.length → (∀ j, j ∉ vs → σ'[j]? = σ[j]?) → Q σ' H) → g us σ H Q
def XGs {I : Type} (X : I → Cx) (E : Am) (ts : List Expr) (vs : List Nat) (pg : List D → Ev → Option Ev) : Prop := ∃ g, (∀ i, PGs (X i) ts g) ∧ GTsok E vs g pg
section
variable {I : Type} {X : I → Cx} {E : Am} {W : WX} {k : Nat}
theorem xg_name {e : Expr} {i : Nat} (h : ∀ j, PG (X j) e (gName i)) : XG X E e [i] (gN i) := by
  refine ⟨_, h, fun B F H σ ρ d v Q ρ' s r rep e q => ?_⟩
  cases e
  refine q _ (r.setD rep) (by simp) fun j hj => ?_
  rw [List.getElem?_set_ne (by simp at hj; omega)]
def gsNil : List D → Ev → Option Ev := fun ds ρ => match ds with | [] => some ρ | _ => none
def gsCons (p : D → Ev → Option Ev) (q : List D → Ev → Option Ev) : List D → Ev → Option Ev := fun ds ρ => match ds with | d :: r => (p d ρ).bind fun ρ1 => q r ρ1 | [] => none
theorem xgs_nil : XGs X E [] [] gsNil := by
  refine ⟨_, fun _ => pgs_nil, fun B F H σ ρ ds us Q ρ' s r rep e q => ?_⟩
  cases ds with
  | nil => cases e; cases rep; exact ⟨rfl, q σ r rfl fun _ _ => rfl⟩
  | cons _ _ => cases e
theorem xgs_cons {e : Expr} {es : List Expr} {vs us : List Nat} {p : D → Ev → Option Ev} {q : List D → Ev → Option Ev} (h : XG X E e vs p) (h' : XGs X E es us q)
    (hs : ∀ i, (assignEach (e :: es) (X i).env).map (·.2) = assign e (X i).env :: (assignEach es (X i).env).map (·.2) := by intro _; rfl) : XGs X E (e :: es) (vs ++ us) (gsCons p q) := by
  obtain ⟨g, g1, g2⟩ := h
  obtain ⟨t, t1, t2⟩ := h'
  refine ⟨_, fun i => pgs_cons (g1 i) (t1 i) (hs i), fun B F H σ ρ ds ws Q ρ' s r rep e q => ?_⟩
  cases ds with
  | nil => cases e
  | cons d ds =>
    obtain ⟨v, vr, rfl, h1, h2⟩ := rep
    unfold gsCons at e
    obtain ⟨ρ1, e1, e2⟩ := Option.bind_eq_some_iff.mp e
    refine ⟨v, vr, rfl, g2 B F H σ ρ d v _ ρ1 s r h1 e1 fun σ1 r1 l1 k1 => ?_⟩
    refine t2 B F H σ1 ρ1 ds vr Q ρ' s r1 h2 e2 fun σ2 r2 l2 k2 => ?_
    refine q σ2 r2 (l2.trans l1) fun j hj => ?_
    rw [k2 j (fun z => hj (List.mem_append_right _ z)), k1 j (fun z => hj (List.mem_append_left _ z))]
def gTp (q : List D → Ev → Option Ev) : D → Ev → Option Ev := fun d ρ => match d with | .tup ds => q ds ρ | _ => none
/-- a, b, .. = a tuple -/
theorem xg_tup {es : List Expr} {kk : Nat} {pos : Pos} {vs : List Nat} {q : List D → Ev → Option Ev} {n : Nat} (c : Ctx X E W k) (h : XGs X E es vs q) (hl : ∀ ds ρ ρ', q ds ρ = some ρ' → ds.length = n)
    (hn : ∀ i, (assignEach es (X i).env).length = n := by intro _; rfl) (hst : ∀ i, (assignEach es (X i).env).findIdx? (·.1) = none := by intro _; rfl) : XG X E (.Tuple es kk pos) vs (gTp q) := by
  obtain ⟨g, g1, g2⟩ := h
  refine ⟨gTup E.K n g, fun i => by rw [← c.K i]; exact pg_tup (c.calm i) (g1 i) (hn i) (hst i), fun B F H σ ρ d v Q ρ' s r rep e q => ?_⟩
  cases d <;> first | (cases e; done) | skip
  rename_i ds
  obtain ⟨a, us, rfl, h2, h3⟩ := rep
  have hlen := hl ds ρ ρ' e
  exact ⟨a, us, rfl, sqT_mono s h2, by rw [← h3.len]; exact hlen, g2 B F H σ ρ ds us Q ρ' s r h3 e q⟩
theorem gs_len0 : ∀ ds ρ ρ', gsNil ds ρ = some ρ' → ds.length = 0 := fun ds ρ ρ' e => by cases ds with | nil => rfl | cons _ _ => cases e
theorem gs_lenS {p : D → Ev → Option Ev} {q : List D → Ev → Option Ev} {n : Nat} (h : ∀ ds ρ ρ', q ds ρ = some ρ' → ds.length = n) : ∀ ds ρ ρ', gsCons p q ds ρ = some ρ' → ds.length = n + 1 := fun ds ρ ρ' e => by
  cases ds with
  | nil => cases e
  | cons d ds =>
    obtain ⟨ρ1, e1, e2⟩ := Option.bind_eq_some_iff.mp (show (p d ρ).bind (fun ρ1 => q ds ρ1) = some ρ' from e)
    rw [List.length_cons, h _ _ _ e2]
end

/-! ## what is walked -/
def Src (E : Am) (F' : Hp) (J : It) (ds : List D) : Prop := ∃ (G : Hp → Prop) (Y : Nat → Hp → V → Hp → Prop), Walk J ds.length G Y ∧ (∀ H2, Same F' H2 → G H2) ∧
  ∀ i H2 x H3 F2 d, ds[i]? = some d → Same F' F2 → Same F2 H2 → Y i H2 x H3 → ∃ F3, Ext F2 H2 F3 H3 ∧ Rep E F3 d x
abbrev GI (E : Am) : Hp → Hp → Hp → List D → It → Prop := fun _ F _ ds J => Src E F J ds
def XI {I : Type} (X : I → Cx) (E : Am) (W : WX) (tg iter : Expr) (p : Ev → Rs (List D)) : Prop := ∃ wi, (∀ i, PI (X i) tg iter wi) ∧ Evals E W (GI E) wi p
theorem pi_or {X : Cx} {tg iter : Expr} {w u : TI} (h : PI X tg iter w) (h' : PI X tg iter u) : PI X tg iter (fun σ H R => w σ H R ∨ u σ H R) := ⟨fun pins s σ H R I q => q.elim (h.run pins s σ H R I) (h'.run pins s σ H R I)⟩
def iterD : D → Option (List D)
  | .tup ds => some ds | .lst ds => some ds | .kl ds => some ds
  | .str z => some (z.cps.toList.map fun c => .str ⟨#[c]⟩)
  | _ => none
def pIter (p : Ev → Rs D) : Ev → Rs (List D) := fun ρ => (p ρ).bind fun d => match iterD d with | some ds => .ok ds | none => .no
section
variable {I : Type} {X : I → Cx} {E : Am} {W : WX} {k : Nat}
theorem src_list {F : Hp} {a : Addr} {vs : List V} {ds : List D} (h : SqL E.K F a vs) (r : RepL E F ds vs) : Src E F (Itl E.K a) ds := by
  refine ⟨_, _, by rw [r.len]; exact walk_list, fun H2 s => sqL_mono s h, fun i H2 x H3 F2 d e s1 s2 y => ?_⟩
  obtain ⟨rfl, y⟩ := y
  obtain ⟨d', e1, e2⟩ := r.getV y
  rw [e] at e1; cases e1
  exact ⟨F2, Ext.refl s2, Rep.mono s1 _ _ e2⟩
theorem src_tup {F : Hp} {a : Addr} {vs : List V} {ds : List D} (h : SqT E.K F a vs) (r : RepL E F ds vs) : Src E F (Itt E.K a) ds := by
  refine ⟨_, _, by rw [r.len]; exact walk_tup, fun H2 s => sqT_mono s h, fun i H2 x H3 F2 d e s1 s2 y => ?_⟩
  obtain ⟨rfl, y⟩ := y
  obtain ⟨d', e1, e2⟩ := r.getV y
  rw [e] at e1; cases e1
  exact ⟨F2, Ext.refl s2, Rep.mono s1 _ _ e2⟩
theorem src_str {F : Hp} {z : Str} : Src E F (Its z) (z.cps.toList.map fun c => .str ⟨#[c]⟩) := by
  refine ⟨_, _, by rw [List.length_map, Array.length_toList]; exact walk_str, fun _ _ => trivial, fun i H2 x H3 F2 d e s1 s2 y => ?_⟩
  obtain ⟨rfl, ch, y1, rfl⟩ := y
  refine ⟨F2, Ext.refl s2, ?_⟩
  rw [List.getElem?_map] at e
  have : z.cps.toList[i]? = some ch := by rw [Array.getElem?_toList]; exact y1
  rw [this] at e
  cases e
  rfl
theorem xi_seq {tg e : Expr} {p : Ev → Rs D} (c : Ctx X E W k) (h : XE X E W e p) : XI X E W tg e (pIter p) := by
  obtain ⟨t, h1, h2⟩ := h
  refine ⟨fun σ H R => iList E.K t σ H R ∨ (iTup E.K t σ H R ∨ iStr t σ H R), fun i => by rw [← c.K i]; exact pi_or (pi_list (h1 i)) (pi_or (pi_tup (h1 i)) (pi_str (h1 i))), fun B F H σ ρ Q s sb r post => ?_⟩
  cases e : p ρ with
  | no => unfold pIter at post; rw [e] at post; exact post.elim
  | err c z =>
    left
    show t σ H _
    exact Evals.seq h2 s sb r post fun F1 H1 d v e1 x1 sb1 r1 gg post1 => by rw [e] at e1; cases e1
  | ok d =>
    have key : ∀ ds, iterD d = some ds → (pIter p ρ) = .ok ds := fun ds hd => by unfold pIter; rw [e]; simp [hd]
    cases d with
    | lst ds =>
      rw [key ds rfl] at post
      left
      show t σ H _
      refine Evals.seq (k := fun d => .ok ds) h2 s sb r (by rw [e]; exact post) fun F1 H1 d v e1 x1 sb1 r1 gg post1 => ?_
      rw [e] at e1; cases e1
      obtain ⟨a, vs, rfl, q1, q2⟩ := gg
      exact ⟨a, rfl, ⟨vs, sqL_mono x1.fh (SqL.of q1)⟩, ev_ok x1.fh post1 (src_list (SqL.of q1) q2)⟩
    | kl ds =>
      rw [key ds rfl] at post
      left
      show t σ H _
      refine Evals.seq (k := fun d => .ok ds) h2 s sb r (by rw [e]; exact post) fun F1 H1 d v e1 x1 sb1 r1 gg post1 => ?_
      rw [e] at e1; cases e1
      obtain ⟨a, vs, rfl, q1, q2⟩ := gg
      exact ⟨a, rfl, ⟨vs, sqL_mono x1.fh q1⟩, ev_ok x1.fh post1 (src_list q1 q2)⟩
    | tup ds =>
      rw [key ds rfl] at post
      right; left
      show t σ H _
      refine Evals.seq (k := fun d => .ok ds) h2 s sb r (by rw [e]; exact post) fun F1 H1 d v e1 x1 sb1 r1 gg post1 => ?_
      rw [e] at e1; cases e1
      obtain ⟨a, vs, rfl, q1, q2⟩ := gg
      exact ⟨a, rfl, ⟨vs, sqT_mono x1.fh q1⟩, ev_ok x1.fh post1 (src_tup q1 q2)⟩
    | str z =>
      rw [key _ rfl] at post
      right; right
      show t σ H _
      refine Evals.seq (k := fun d => .ok _) h2 s sb r (by rw [e]; exact post) fun F1 H1 d v e1 x1 sb1 r1 gg post1 => ?_
      rw [e] at e1; cases e1
      cases gg
      exact ⟨z, rfl, ev_ok x1.fh post1 src_str⟩
    | _ => exfalso; unfold pIter at post; rw [e] at post; exact post
def rgD (lo : Int) (n : Nat) : List D := (List.range n).map fun i => .int (lo + (i : Nat))
def rgOk (i : Int) : Bool := decide (-(2 ^ 62) ≤ i) && decide (i < 2 ^ 62)
def pRg1 (q : Ev → Rs (List D)) : Ev → Rs (List D) := fun ρ => (q ρ).bind fun ds => match ds with | [.int n] => if rgOk n then .ok (rgD 0 n.toNat) else .no | _ => .no
def pRg2 (q : Ev → Rs (List D)) : Ev → Rs (List D) := fun ρ => (q ρ).bind fun ds => match ds with | [.int a, .int n] => if rgOk a && rgOk n then .ok (rgD a (n - a).toNat) else .no | _ => .no
theorem src_range {F : Hp} {lo : Int} {n : Nat} : Src E F (Itr lo n) (rgD lo n) := by
  refine ⟨_, _, by unfold rgD; rw [List.length_map, List.length_range]; exact walk_range, fun _ _ => trivial, fun i H2 x H3 F2 d e s1 s2 y => ?_⟩
  obtain ⟨rfl, rfl⟩ := y
  refine ⟨F2, Ext.refl s2, ?_⟩
  unfold rgD at e
  rw [List.getElem?_map] at e
  cases q : (List.range n)[i]? with
  | none => rw [q] at e; cases e
  | some j =>
    rw [q] at e
    have hj : i = j := by
      have := List.getElem?_eq_some_iff.mp q
      obtain ⟨h1, h2⟩ := this
      rw [List.getElem_range] at h2
      exact h2
    subst hj
    cases e
    rfl
theorem rgOk_iff {i : Int} (h : rgOk i = true) : -(2 ^ 62) ≤ i ∧ i < 2 ^ 62 := by
  obtain ⟨h1, h2⟩ := Bool.and_eq_true_iff.mp h
  exact ⟨of_decide_eq_true h1, of_decide_eq_true h2⟩
theorem xi_range1 {tg e : Expr} {p pos : Pos} {q : Ev → Rs (List D)} (hg : ∀ i, Gl (X i) "range") (hm : ∀ i, (X i).mg "range" = none) (ha : XAL X E W [e] q) (hs : ∀ i, starEach [e] (X i).env = [(false, eval e (X i).env)] := by intro _; rfl) : XI X E W tg (.Call (.Name "range" p) [e] [] pos) (pRg1 q) := by
  obtain ⟨t, h1, h2⟩ := ha
  refine ⟨_, fun i => pi_range1 (hg i) (hm i) (h1 i) (hs i), fun B F H σ ρ Q s sb r post => ?_⟩
  show t σ H _
  refine Evals.seq h2 s sb r post fun F1 H1 ds vs e1 x1 sb1 r1 gg post1 => ?_
  split at post1
  · rename_i n
    by_cases c : rgOk n = true
    · rw [if_pos c] at post1
      obtain ⟨v, rfl, g1⟩ := rol1 gg
      cases repO_int g1
      obtain ⟨c1, c2⟩ := rgOk_iff c
      exact ⟨n, rfl, c1, c2, ev_ok x1.fh post1 src_range⟩
    · rw [if_neg c] at post1; exact post1.elim
  · exact post1.elim
theorem xi_range2 {tg e e2 : Expr} {p pos : Pos} {q : Ev → Rs (List D)} (hg : ∀ i, Gl (X i) "range") (hm : ∀ i, (X i).mg "range" = none) (ha : XAL X E W [e, e2] q) (hs : ∀ i, starEach [e, e2] (X i).env = [(false, eval e (X i).env), (false, eval e2 (X i).env)] := by intro _; rfl) (hs2 : ∀ i, starEach [e2] (X i).env = [(false, eval e2 (X i).env)] := by intro _; rfl) :
    XI X E W tg (.Call (.Name "range" p) [e, e2] [] pos) (pRg2 q) := by
  obtain ⟨t, h1, h2⟩ := ha
  refine ⟨_, fun i => pi_range2 (hg i) (hm i) (h1 i) (hs i) (hs2 i), fun B F H σ ρ Q s sb r post => ?_⟩
  show t σ H _
  refine Evals.seq h2 s sb r post fun F1 H1 ds vs e1 x1 sb1 r1 gg post1 => ?_
  split at post1
  · rename_i a n
    by_cases c : (rgOk a && rgOk n) = true
    · rw [if_pos c] at post1
      obtain ⟨v, u, rfl, g1, g2⟩ := rol2 gg
      cases repO_int g1
      cases repO_int g2
      obtain ⟨d1, d2⟩ := Bool.and_eq_true_iff.mp c
      obtain ⟨c1, c2⟩ := rgOk_iff d1
      obtain ⟨c3, c4⟩ := rgOk_iff d2
      exact ⟨a, n, rfl, ⟨c1, c2, c3, c4⟩, ev_ok x1.fh post1 src_range⟩
    · rw [if_neg c] at post1; exact post1.elim
  · exact post1.elim
/-- enumerate(list) -/
def enumD (lo : Int) : List D → List D
  | [] => []
  | d :: ds => .tup [.int lo, d] :: enumD (lo + 1) ds
theorem enumD_get : ∀ {ds : List D} {lo : Int} {i : Nat} {x : D}, (enumD lo ds)[i]? = some x → ∃ d, ds[i]? = some d ∧ x = .tup [.int (lo + (i : Nat)), d]
  | [], lo, i, x, h => by simp [enumD] at h
  | d :: ds, lo, 0, x, h => by simp [enumD] at h; subst h; exact ⟨d, rfl, by simp⟩
  | d :: ds, lo, i + 1, x, h => by
    obtain ⟨y, e1, e2⟩ := enumD_get (ds := ds) (lo := lo + 1) (i := i) (by simpa [enumD] using h)
    refine ⟨y, by simpa using e1, ?_⟩
    rw [e2]
    have : lo + 1 + (i : Int) = lo + ((i + 1 : Nat) : Int) := by omega
    rw [this]
theorem enumD_len : ∀ {ds : List D} {lo : Int}, (enumD lo ds).length = ds.length
  | [], _ => rfl
  | d :: ds, lo => by simp [enumD, enumD_len]
def pEnum (q : Ev → Rs (List D)) : Ev → Rs (List D) := fun ρ => (q ρ).bind fun ds => match ds with | [d] => (match itemsL d with | some es => .ok (enumD 0 es) | none => .no) | _ => .no
theorem src_pair {F2 H2 H3 : Hp} {x y : V} {dx dy : D} {v : V} {T : Addr} (s2 : Same F2 H2) (hT : H2 T = none) (e : H3 = upd H2 T (.tup [x, y])) (ev : v = .ref T) (rx : Rep E F2 dx x) (ry : Rep E F2 dy y) : ∃ F3, Ext F2 H2 F3 H3 ∧ Rep E F3 (.tup [dx, dy]) v := by
  subst e ev
  exact ⟨upd F2 T (.tup [x, y]), Ext.new s2 hT, gs_newT s2 hT (.cons rx (.cons ry rfl))⟩
theorem src_enum {F : Hp} {a : Addr} {vs : List V} {ds : List D} (h : SqL E.K F a vs) (r : RepL E F ds vs) : Src E F (Ite E.K a) (enumD 0 ds) := by
  refine ⟨_, _, by rw [enumD_len, r.len]; exact walk_enum, fun H2 s => sqL_mono s h, fun i H2 x H3 F2 d e s1 s2 y => ?_⟩
  obtain ⟨T, x1, y1, e1, e2, e3, e4, e5⟩ := y
  obtain ⟨d', f1, f2⟩ := enumD_get e
  obtain ⟨d2, g1, g2⟩ := r.getV e5
  rw [f1] at g1; cases g1
  cases e4
  subst f2
  have z : (0 : Int) + (i : Int) = (i : Int) := by omega
  rw [z]
  exact src_pair s2 e2 e3 e1 rfl (Rep.mono s1 _ _ g2)
theorem xi_enum {e : Expr} {p pos tpos : Pos} {elts : List Expr} {kk : Nat} {q : Ev → Rs (List D)} (c : Ctx X E W k) (hg : ∀ i, Gl (X i) "enumerate") (hm : ∀ i, (X i).mg "enumerate" = none) (ha : XA X E W [e] q) (hs : ∀ i, starEach [e] (X i).env = [(false, eval e (X i).env)] := by intro _; rfl) :
    XI X E W (.Tuple elts kk tpos) (.Call (.Name "enumerate" p) [e] [] pos) (pEnum q) := by
  obtain ⟨t, h1, h2⟩ := ha
  refine ⟨iEnum E.K t, fun i => by rw [← c.K i]; exact pi_enum (hg i) (hm i) (h1 i) (hs i), fun B F H σ ρ Q s sb r post => ?_⟩
  show t σ H _
  refine Evals.seq h2 s sb r post fun F1 H1 ds vs e1 x1 sb1 r1 gg post1 => ?_
  split at post1
  · split at post1
    · rename_i d es ed
      obtain ⟨v, r', rfl, g1, g2⟩ := gg
      cases g2
      obtain ⟨a, us, rfl, q1, q2⟩ := repO_list (F := F1) (H := F1) (Same.refl F1) ed (.inl g1)
      exact ⟨a, us, rfl, sqL_mono x1.fh q1, ev_ok x1.fh post1 (src_enum q1 q2)⟩
    · exact post1.elim
  · exact post1.elim
def zipD : List D → List D → List D
  | x :: xs, y :: ys => .tup [x, y] :: zipD xs ys
  | _, _ => []
theorem zipD_get : ∀ {xs ys : List D} {i : Nat} {x : D}, (zipD xs ys)[i]? = some x → ∃ a b, xs[i]? = some a ∧ ys[i]? = some b ∧ x = .tup [a, b]
  | [], _, i, x, h => by simp [zipD] at h
  | _ :: _, [], i, x, h => by simp [zipD] at h
  | a :: xs, b :: ys, 0, x, h => by simp [zipD] at h; subst h; exact ⟨a, b, rfl, rfl, rfl⟩
  | a :: xs, b :: ys, i + 1, x, h => by
    obtain ⟨a', b', h1, h2, h3⟩ := zipD_get (xs := xs) (ys := ys) (i := i) (by simpa [zipD] using h)
    exact ⟨a', b', by simpa using h1, by simpa using h2, h3⟩
theorem zipD_len : ∀ {xs ys : List D}, (zipD xs ys).length = min xs.length ys.length
  | [], _ => by simp [zipD]
  | _ :: _, [] => by simp [zipD]
  | a :: xs, b :: ys => by simp [zipD, zipD_len]
def pZip (q : Ev → Rs (List D)) : Ev → Rs (List D) := fun ρ => (q ρ).bind fun ds => match ds with | [d, e] => (match itemsL d, itemsL e with | some xs, some ys => .ok (zipD xs ys) | _, _ => .no) | _ => .no
theorem src_zip {F : Hp} {a b : Addr} {vs us : List V} {ds es : List D} (h : SqL E.K F a vs) (r : RepL E F ds vs) (h' : SqL E.K F b us) (r' : RepL E F es us) : Src E F (Itz E.K a b) (zipD ds es) := by
  refine ⟨_, _, walk_zip (by rw [zipD_len, r.len, r'.len]), fun H2 s => ⟨sqL_mono s h, sqL_mono s h'⟩, fun i H2 x H3 F2 d e s1 s2 y => ?_⟩
  obtain ⟨T, x1, y1, e1, e2, e3, e4, e5⟩ := y
  obtain ⟨d1, d2, f1, f2, f3⟩ := zipD_get e
  obtain ⟨q1, g1, g2⟩ := r.getV e4
  obtain ⟨q2, g3, g4⟩ := r'.getV e5
  rw [f1] at g1; cases g1
  rw [f2] at g3; cases g3
  subst f3
  exact src_pair s2 e2 e3 e1 (Rep.mono s1 _ _ g2) (Rep.mono s1 _ _ g4)
theorem xi_zip {e e2 : Expr} {p pos tpos : Pos} {elts : List Expr} {kk : Nat} {q : Ev → Rs (List D)} (c : Ctx X E W k) (hg : ∀ i, Gl (X i) "zip") (hm : ∀ i, (X i).mg "zip" = none) (ha : XA X E W [e, e2] q) (hs : ∀ i, starEach [e, e2] (X i).env = (false, eval e (X i).env) :: starEach [e2] (X i).env := by intro _; rfl) (hpl : ∀ i, (backTo pos (starEach [e2] (X i).env)).any (·.1) = false := by intro _; rfl) :
    XI X E W (.Tuple elts kk tpos) (.Call (.Name "zip" p) [e, e2] [] pos) (pZip q) := by
  obtain ⟨t, h1, h2⟩ := ha
  refine ⟨iZip E.K t, fun i => by rw [← c.K i]; exact pi_zip (hg i) (hm i) (h1 i) (hs i) (hpl i), fun B F H σ ρ Q s sb r post => ?_⟩
  show t σ H _
  refine Evals.seq h2 s sb r post fun F1 H1 ds vs e1 x1 sb1 r1 gg post1 => ?_
  split at post1
  · split at post1
    · rename_i d e xs ys ed ee
      obtain ⟨v, r', rfl, g1, g2⟩ := gg
      obtain ⟨v', r'', rfl, g3, g4⟩ := g2
      cases g4
      obtain ⟨a, us, rfl, q1, q2⟩ := repO_list (F := F1) (H := F1) (Same.refl F1) ed (.inl g1)
      obtain ⟨b, ws, rfl, q3, q4⟩ := repO_list (F := F1) (H := F1) (Same.refl F1) ee (.inl g3)
      exact ⟨a, b, us, ws, rfl, sqL_mono x1.fh q1, sqL_mono x1.fh q3, ev_ok x1.fh post1 (src_zip q1 q2 q3 q4)⟩
    · exact post1.elim
  · exact post1.elim
end
end DL
end

section
set_option linter.all false
set_option maxRecDepth 100000
set_option maxHeartbeats 4000000
namespace DL
open PySem PySem.Spec L2
/-- nothing may fly -/
abbrev W0 : WX := fun _ _ _ _ => False

/-! ## comprehensions -/
def wipeE (ρ : Ev) : List Nat → Ev
  | [] => ρ
  | v :: vs => (wipeE ρ vs).set v .unb
theorem StR.wipe {E : Am} {B F H : Hp} {σ : L2.St} {ρ : Ev} (s : StR E B F H σ ρ) : ∀ vs : List Nat, StR E B F H (L2.wipe σ vs) (wipeE ρ vs)
  | [] => s
  | v :: vs => (StR.wipe s vs).setU
theorem wipe_get {σ : L2.St} {j : Nat} : ∀ {vs : List Nat}, j ∉ vs → (L2.wipe σ vs)[j]? = σ[j]?
  | [], _ => rfl
  | v :: vs, h => by
    show ((L2.wipe σ vs).set v none)[j]? = σ[j]?
    rw [List.getElem?_set_ne (fun z => h (by rw [z]; exact List.mem_cons_self)), wipe_get fun z => h (List.mem_cons_of_mem _ z)]
theorem wipe_in {σ : L2.St} {j : Nat} : ∀ {vs : List Nat}, j ∈ vs → (L2.wipe σ vs)[j]? = if j < σ.length then some none else none
  | [], h => by simp at h
  | v :: vs, h => by
    show ((L2.wipe σ vs).set v none)[j]? = _
    by_cases q : v = j
    · subst q
      by_cases hl : v < σ.length
      · rw [List.getElem?_set_self (by rw [wipe_length]; exact hl), if_pos hl]
      · rw [if_neg hl, List.getElem?_eq_none (by rw [List.length_set, wipe_length]; omega)]
    · rw [List.getElem?_set_ne q]
      exact wipe_in (by rcases List.mem_cons.mp h with z | z; exact absurd z.symm q; exact z)
theorem wipe_same {σ σ' : L2.St} {vs : List Nat} (hl : σ'.length = (L2.wipe σ vs).length) (h : ∀ j, j ∉ vs → σ'[j]? = (L2.wipe σ vs)[j]?) : L2.wipe σ' vs = L2.wipe σ vs := by
  apply List.ext_getElem?
  intro j
  rw [wipe_length] at hl
  by_cases q : j ∈ vs
  · rw [wipe_in q, wipe_in q, hl]
  · rw [wipe_get q, h j q]
def lcL (g : D → Ev → Option Ev) (pt : Ev → Rs Bool) (pe : Ev → Rs D) (ρ : Ev) : List D → Option (List D)
  | [] => some []
  | d :: ds => match g d ρ with
    | none => none
    | some ρ1 => match pt ρ1 with
      | .ok true => (match pe ρ1 with
        | .ok x => (lcL g pt pe ρ ds).map (x :: ·)
        | _ => none)
      | .ok false => lcL g pt pe ρ ds
      | _ => none
def pLc (ps : Ev → Rs (List D)) (g : D → Ev → Option Ev) (pt : Ev → Rs Bool) (pe : Ev → Rs D) (vs : List Nat) : Ev → Rs D := fun ρ =>
  (ps ρ).bind fun ds => if ds.length ≤ sizeLine then (match lcL g pt pe (wipeE ρ vs) ds with | some r => .ok (.lst r) | none => .no) else .no
/-- the contexts of the block -/
def Blk {I : Type} (X : I → Cx) (scope : Scope) : I × Shared × Hp × Addr × List (Str × Addr) × List Addr → Cx := fun j => (X j.1).blk j.2.1 j.2.2.1 scope (compEnvC scope j.2.2.2.2.1 j.2.2.2.1 (X j.1).env) j.2.2.2.2.2
def XTs {I : Type} (X : I → Cx) (E : Am) (W : WX) (ifs : List Expr) (p : Ev → Rs Bool) : Prop := ∃ t, (∀ i, PTs (X i) ifs t) ∧ Evals E W GB t p
def pYes : Ev → Rs Bool := fun _ => .ok true
section
variable {I : Type} {X : I → Cx} {E : Am} {W : WX} {k : Nat}
theorem Ctx.blk (c : Ctx X E W k) (scope : Scope) : Ctx (Blk X scope) E W0 k :=
  ⟨fun j => c.K j.1, fun j => c.calm j.1, fun j => c.room j.1, fun _ => takes0, fun _ => PassesOwn.never⟩
theorem xts_nil : XTs X E W [] pYes := ⟨_, fun _ => pts_nil, fun B F H σ ρ Q s sb r post => ev_ok s post rfl⟩
theorem xts_one {e : Expr} {p : Ev → Rs Bool} (h : XT X E W e p) : XTs X E W [e] p := by
  obtain ⟨t, h1, h2⟩ := h
  exact ⟨t, fun i => pts_one (h1 i), h2⟩
theorem rs_post {α β : Type} {E : Am} {W : WX} {σ : L2.St} {F H : Hp} {G : Hp → Hp → α → β → Prop} {Q : β → Hp → Prop} {r : Rs α} {a : α} (e : r = .ok a) (h : ∀ F' H' b, Ext F H F' H' → G F' H' a b → Q b H') : Post E W σ F H G Q r := by
  rw [e]; exact h
/-- a comprehension's parts and what it makes -/
def XLc {I : Type} (X : I → Cx) (E : Am) (W : WX) (elt tg iter : Expr) (ifs : List Expr) (scope : Scope) (own : List (Str × Nat)) (p : Ev → Rs D) : Prop := ∃ (wi : TI) (g : TG) (tt : TT) (te : TE),
  (∀ i, PI (X i) tg iter wi) ∧ (∀ j, PG (Blk X scope j) tg g) ∧ (∀ j, PTs (Blk X scope j) ifs tt) ∧ (∀ j, PE (Blk X scope j) elt te) ∧ Evals E W (GN E) (tLc wi g tt te (own.map (·.2))) p
theorem xlc {elt tg iter : Expr} {ifs : List Expr} {scope : Scope} {own : List (Str × Nat)} {ps : Ev → Rs (List D)} {g : D → Ev → Option Ev} {pt : Ev → Rs Bool} {pe : Ev → Rs D} {vs : List Nat} (c : Ctx X E W k)
    (hi : XI X E W tg iter ps) (hg : XG (Blk X scope) E tg vs g) (hv : ∀ j ∈ vs, j ∈ own.map (·.2)) (ht : XTs (Blk X scope) E W0 ifs pt) (he : XE (Blk X scope) E W0 elt pe) : XLc X E W elt tg iter ifs scope own (pLc ps g pt pe (own.map (·.2))) := by
  obtain ⟨wi, i1, i2⟩ := hi
  obtain ⟨gg, g1, g2⟩ := hg
  obtain ⟨tt, t1, t2⟩ := ht
  obtain ⟨te, e1, e2⟩ := he
  refine ⟨wi, gg, tt, te, i1, g1, t1, e1, ?_⟩
  intro B F H σ ρ Q s sb r post
  show wi σ H _
  refine Evals.seq (G2 := fun F' H' a b => GN E H F' H' a b) i2 s sb r post fun F1 H1 ds J _ x1 sb1 r1 src post1 => ?_
  by_cases cz : ds.length ≤ sizeLine
  · rw [if_pos cz] at post1
    cases el : lcL g pt pe (wipeE ρ (own.map (·.2))) ds with
    | none => rw [el] at post1; exact post1.elim
    | some fin =>
      rw [el] at post1
      intro D hD
      obtain ⟨G, Y, wk, hG, hY⟩ := src
      have hF1D : F1 D = none := x1.fh.free hD
      refine lc_it wk (Pv := fun i H' => ∃ F' acc accD rest, Ext F1 H1 F' H' ∧ H' D = some (.lst acc) ∧ F' D = none ∧ RepL E F' accD acc ∧ acc.length ≤ i ∧ lcL g pt pe (wipeE ρ (own.map (·.2))) (ds.drop i) = some rest ∧ accD ++ rest = fin)
        ⟨F1, [], [], fin, Ext.newH x1.fh hD, upd_same, hF1D, rfl, Nat.le_refl _, by rw [List.drop_zero]; exact el, rfl⟩ (fun i H' _ ⟨F', _, _, _, x, _⟩ => hG H' (x.f.trans x.fh)) ?_ ?_
      · rintro i x H2 H3 hin ⟨F2, acc, accD, rest, x2, hD2, hF2, ra, hal, hrest, hfin⟩ y
        have hd : ds[i]? = some ds[i] := List.getElem?_eq_getElem hin
        obtain ⟨F3, x3, rx⟩ := hY i H2 x H3 F2 _ hd x2.f x2.fh y
        have x13 := x2.trans x3
        have hD3 : H3 D = some (.lst acc) := x3.h _ _ hD2
        have hF3 : F3 D = none := by rw [x3.nf D (by rw [hD2]; simp)]; exact hF2
        have r3 : StR E B F3 H3 (L2.wipe σ (own.map (·.2))) (wipeE ρ (own.map (·.2))) := (r1.mono x13).wipe _
        have sb3 : Same B H3 := sb1.trans x13.h
        rw [List.drop_eq_getElem_cons hin] at hrest
        unfold lcL at hrest
        split at hrest
        · cases hrest
        · rename_i ρ1 eg
          refine g2 B F3 H3 _ _ ds[i] x _ ρ1 x3.fh r3 rx eg fun σ2 r4 hl4 hk4 => ?_
          refine ⟨wipe_same hl4 fun j hj => hk4 j fun z => hj (hv j z), ?_⟩
          split at hrest
          · rename_i ept
            refine t2 B F3 H3 σ2 ρ1 _ x3.fh sb3 r4 (rs_post ept fun F4 H4 b x4 gb => ?_)
            cases gb
            rw [if_pos rfl]
            split at hrest
            · rename_i xd epe
              obtain ⟨rest', hr1, hr2⟩ := Option.map_eq_some_iff.mp hrest
              refine e2 B F4 H4 σ2 ρ1 _ x4.fh (sb3.trans x4.h) (r4.mono x4) (rs_post epe fun F5 H5 v x5 gv => ?_)
              have x15 := (x13.trans x4).trans x5
              have hD5 : H5 D = some (.lst acc) := x5.h _ _ (x4.h _ _ hD3)
              have hF5 : F5 D = none := by rw [(x4.trans x5).nf D (by rw [hD3]; simp)]; exact hF3
              refine ⟨acc, hD5, by omega, F5, acc ++ [v], accD ++ [xd], rest', x15.wr hF5 hD, upd_same, hF5, ?_, by rw [List.length_append]; simp; omega, hr1, by rw [← hfin, ← hr2]; simp⟩
              exact (RepL.mono ((x3.trans (x4.trans x5)).f) _ _ ra).append (.cons gv rfl)
            · cases hrest
          · rename_i ept
            refine t2 B F3 H3 σ2 ρ1 _ x3.fh sb3 r4 (rs_post ept fun F4 H4 b x4 gb => ?_)
            cases gb
            rw [if_neg Bool.false_ne_true]
            exact ⟨F4, acc, accD, rest, x13.trans x4, x4.h _ _ hD3, by rw [x4.nf D (by rw [hD3]; simp)]; exact hF3, RepL.mono (x3.trans x4).f _ _ ra, by omega, hrest, hfin⟩
          · cases hrest
      · rintro H2 ⟨F2, acc, accD, rest, x2, hD2, hF2, ra, hal, hrest, hfin⟩
        rw [List.drop_length] at hrest
        cases hrest
        rw [List.append_nil] at hfin
        subst hfin
        exact post1 F2 H2 _ x2 ⟨D, _, rfl, x1.h.free hD, hF2, hD2, acc, rfl, ra⟩
  · rw [if_neg cz] at post1; exact post1.elim
theorem xn_lc {elt tg iter : Expr} {ifs : List Expr} {scope : Scope} {own : List (Str × Nat)} {pos : Pos} {p : Ev → Rs D} (c : Ctx X E W k) (hN : ∀ i, (X i).N.Nodup) (h : XLc X E W elt tg iter ifs scope own p) (ok : ∀ i, BlkOk (X i).N (X i).env.scope scope own)
    (hs : ∀ i x, foldedSetIterable iter (X i).env x = pure x := by intro _ _; rfl) : XN X E W (.ListComp elt [⟨tg, iter, ifs, 0⟩] scope pos) p := by
  obtain ⟨wi, g, tt, te, h1, h2, h3, h4, h5⟩ := h
  exact ⟨_, fun i => pe_lc (c.calm i) (hN i) (h1 i) (ok i) (fun s H C cl fp => h2 (i, s, H, C, cl, fp)) (fun s H C cl fp => h3 (i, s, H, C, cl, fp)) (fun s H C cl fp => h4 (i, s, H, C, cl, fp)) (hs i), h5⟩
end

/-! ## statements -/
inductive Fl where
  | nx (ρ : Ev) | rt (d : D) | bk (ρ : Ev) | ct (ρ : Ev) | err (c : Str) (x : Option (Str × D)) (ρ : Ev) | no
def PostS (E : Am) (W : WX) (F0 B : Hp) (Dn : Ends) : Fl → Prop
  | .nx ρ => ∀ F' H' σ', Ext F0 B F' H' → StR E B F' H' σ' ρ → Dn.nx σ' H'
  | .bk ρ => ∀ F' H' σ', Ext F0 B F' H' → StR E B F' H' σ' ρ → Dn.bk σ' H'
  | .ct ρ => ∀ F' H' σ', Ext F0 B F' H' → StR E B F' H' σ' ρ → Dn.ct σ' H'
  | .rt d => ∀ F' H' v, Ext F0 B F' H' → Rep E F' d v → Dn.rt v H'
  | .err c x ρ => ∀ F' H' σ' cls dd, Ext F0 B F' H' → StR E B F' H' σ' ρ → ErrP E F' H' c x cls dd → W cls dd σ' H'
  | .no => False
def Does (E : Am) (W : WX) (t : TS) (p : Ev → Fl) : Prop :=
  ∀ (F0 B F H : Hp) (σ : L2.St) (ρ : Ev) (Dn : Ends), Ext F0 B F H → StR E B F H σ ρ → PostS E W F0 B Dn (p ρ) → t Dn σ H
def XS {I : Type} (X : I → Cx) (E : Am) (W : WX) (st : Stmt) (p : Ev → Fl) : Prop := ∃ t, (∀ i, PS (X i) st t) ∧ Does E W t p
def XSs {I : Type} (X : I → Cx) (E : Am) (W : WX) (st : List Stmt) (p : Ev → Fl) : Prop := ∃ t, (∀ i, PSs (X i) st t) ∧ Does E W t p
def pSeq (p q : Ev → Fl) : Ev → Fl := fun ρ => match p ρ with | .nx ρ1 => q ρ1 | r => r
def pNext : Ev → Fl := .nx
section
variable {I : Type} {X : I → Cx} {E : Am} {W : WX} {k : Nat}
theorem xss_nil : XSs X E W [] pNext := ⟨_, fun _ => pss_nil, fun F0 B F H σ ρ Dn x r post => post F H σ x r⟩
theorem xss_one {s : Stmt} {p : Ev → Fl} (h : XS X E W s p) : XSs X E W [s] p := by
  obtain ⟨t, h1, h2⟩ := h
  exact ⟨t, fun i => pss_one (h1 i), h2⟩
theorem xss_cons {s : Stmt} {rest : List Stmt} {p q : Ev → Fl} (h : XS X E W s p) (h' : XSs X E W rest q) : XSs X E W (s :: rest) (pSeq p q) := by
  obtain ⟨t, h1, h2⟩ := h
  obtain ⟨u, g1, g2⟩ := h'
  refine ⟨_, fun i => pss_cons (h1 i) (g1 i), fun F0 B F H σ ρ Dn x r post => ?_⟩
  refine h2 F0 B F H σ ρ _ x r ?_
  unfold pSeq at post
  cases e : p ρ with
  | nx ρ1 => rw [e] at post; exact fun F' H' σ' x' r' => g2 F0 B F' H' σ' ρ1 Dn x' r' post
  | rt d => rw [e] at post; exact post
  | bk ρ1 => rw [e] at post; exact post
  | ct ρ1 => rw [e] at post; exact post
  | err c z ρ1 => rw [e] at post; exact post
  | no => rw [e] at post; exact post
/-- behind an evaluation -/
def pWith {α : Type} (p : Ev → Rs α) (f : α → Ev → Fl) : Ev → Fl := fun ρ => match p ρ with | .ok a => f a ρ | .err c x => .err c x ρ | .no => .no
theorem Does.eval {α β : Type} {G : Hp → Hp → Hp → α → β → Prop} {t : L2.St → Hp → (β → Hp → Prop) → Prop} {p : Ev → Rs α} {f : α → Ev → Fl} {F0 B F H : Hp} {σ : L2.St} {ρ : Ev} {Dn : Ends} {K : β → Hp → Prop} (h : Evals E W G t p) (x : Ext F0 B F H) (r : StR E B F H σ ρ) (post : PostS E W F0 B Dn (pWith p f ρ))
    (step : ∀ F1 H1 a b, Ext F H F1 H1 → Ext F0 B F1 H1 → StR E B F1 H1 σ ρ → G H F1 H1 a b → PostS E W F0 B Dn (f a ρ) → K b H1) : t σ H K := by
  refine h B F H σ ρ K x.fh x.h r ?_
  unfold pWith at post
  cases e : p ρ with
  | ok a => rw [e] at post; exact fun F1 H1 b x1 g => step F1 H1 a b x1 (x.trans x1) (r.mono x1) g post
  | err c z => rw [e] at post; exact fun F1 H1 cls dd x1 g => post F1 H1 σ cls dd (x.trans x1) (r.mono x1) g
  | no => rw [e] at post; exact post
end
end DL
end

section
set_option linter.all false
set_option maxRecDepth 100000
set_option maxHeartbeats 4000000
namespace DL
open PySem PySem.Spec L2
section
variable {I : Type} {X : I → Cx} {E : Am} {W : WX} {k : Nat}

/-! ## assignments -/
def pSet (i : Nat) (p : Ev → Rs D) : Ev → Fl := pWith p fun d ρ => .nx (ρ.set i (.dat d))
def pSetO (i : Nat) (p : Ev → Rs D) : Ev → Fl := pWith p fun d ρ => .nx (ρ.set i (.own d))
theorem does_set {i : Nat} {t : TE} {p : Ev → Rs D} (h : Evals E W (GS E) t p) : Does E W (tAsg t (gName i)) (pSet i p) := by
  intro F0 B F H σ ρ Dn x r post
  show t σ H _
  exact Does.eval h x r post fun F1 H1 d v x1 x2 r2 g post1 => post1 F1 H1 _ x2 (r2.setD g)
theorem does_setO {i : Nat} {t : TE} {p : Ev → Rs D} (h : Evals E W (GN E) t p) : Does E W (tAsg t (gName i)) (pSetO i p) := by
  intro F0 B F H σ ρ Dn x r post
  show t σ H _
  refine Does.eval h x r post fun F1 H1 d v x1 x2 r2 g post1 => ?_
  obtain ⟨l, ho, rfl, h0, h1, h2, h3⟩ := g
  refine post1 F1 H1 _ x2 (r2.setO h2 h1 (x.h.free h0) h3 fun j e hj _ hs => ?_)
  obtain ⟨l', ho', q1, q2, _⟩ := r.own j e hj
  rw [hs] at q1
  cases q1
  rw [h0] at q2
  cases q2
/-- a name's place -/
structure Nm {I : Type} (X : I → Cx) (i : Nat) (x : Str) : Prop where
  nd : ∀ j, (X j).N.Nodup
  at_ : ∀ j, (X j).N[i]? = some x
  loc : ∀ j, Loc (X j).env.scope x
  fn : ∀ j, (X j).fn x = true ∨ (X j).env.scope.names.lookup x = some .local
theorem xs_set {i : Nat} {x : Str} {e : Expr} {p : Ev → Rs D} {pos pos' : Pos} (n : Nm X i x) (h : XE X E W e p) (hs : ∀ j, swapsWith e (some (.Name x pos')) pos.line (X j).env = pure false := by intro _; rfl) : XS X E W (.Assign [.Name x pos'] e pos) (pSet i p) := by
  obtain ⟨t, h1, h2⟩ := h
  exact ⟨_, fun j => ps_set (n.nd j) (n.at_ j) (n.loc j) (h1 j) (hs j) (n.fn j), does_set h2⟩
theorem xs_setO {i : Nat} {x : Str} {e : Expr} {p : Ev → Rs D} {pos pos' : Pos} (n : Nm X i x) (h : XN X E W e p) (hs : ∀ j, swapsWith e (some (.Name x pos')) pos.line (X j).env = pure false := by intro _; rfl) : XS X E W (.Assign [.Name x pos'] e pos) (pSetO i p) := by
  obtain ⟨t, h1, h2⟩ := h
  exact ⟨_, fun j => ps_set (n.nd j) (n.at_ j) (n.loc j) (h1 j) (hs j) (n.fn j), does_setO h2⟩
/-- name = [.. for ..] -/
theorem lc_ps {i : Nat} {y : Str} {py : Pos} {elt tg iter : Expr} {ifs : List Expr} {scope : Scope} {own : List (Str × Nat)} {pos spos : Pos} {wi : TI} {g : TG} {tt : TT} {te : TE} (c : Ctx X E W k) (n : Nm X i y) (hyl : ∀ j, (X j).env.scope.names.lookup y = some .local)
    (h1 : ∀ i, PI (X i) tg iter wi) (h2 : ∀ j, PG (Blk X scope j) tg g) (h3 : ∀ j, PTs (Blk X scope j) ifs tt) (h4 : ∀ j, PE (Blk X scope j) elt te) (ok : ∀ i, BlkOk (X i).N (X i).env.scope scope own)
    (hsw : ∀ j, swapsWith (.ListComp elt [⟨tg, iter, ifs, 0⟩] scope pos) (some (.Name y py)) spos.line (X j).env = pure true) (hs : ∀ i x, foldedSetIterable iter (X i).env x = pure x := by intro _ _; rfl) :
    ∀ j, PS (X j) (.Assign [.Name y py] (.ListComp elt [⟨tg, iter, ifs, 0⟩] scope pos) spos) (tAsg (tLc wi g tt te (own.map (·.2))) (gName i)) := fun j =>
  ps_setLc (c.calm j) (n.nd j) (n.at_ j) (hyl j) (hsw j) (h1 j) (ok j) (fun s H C cl fp => h2 (j, s, H, C, cl, fp)) (fun s H C cl fp => h3 (j, s, H, C, cl, fp)) (fun s H C cl fp => h4 (j, s, H, C, cl, fp)) (hs j)
theorem xs_setLc {i : Nat} {y : Str} {py : Pos} {elt tg iter : Expr} {ifs : List Expr} {scope : Scope} {own : List (Str × Nat)} {pos spos : Pos} {p : Ev → Rs D} (c : Ctx X E W k) (n : Nm X i y) (hyl : ∀ j, (X j).env.scope.names.lookup y = some .local) (h : XLc X E W elt tg iter ifs scope own p) (ok : ∀ i, BlkOk (X i).N (X i).env.scope scope own)
    (hsw : ∀ j, swapsWith (.ListComp elt [⟨tg, iter, ifs, 0⟩] scope pos) (some (.Name y py)) spos.line (X j).env = pure true) (hs : ∀ i x, foldedSetIterable iter (X i).env x = pure x := by intro _ _; rfl) :
    XS X E W (.Assign [.Name y py] (.ListComp elt [⟨tg, iter, ifs, 0⟩] scope pos) spos) (pSet i p) := by
  obtain ⟨wi, g, tt, te, h1, h2, h3, h4, h5⟩ := h
  exact ⟨_, lc_ps c n hyl h1 h2 h3 h4 ok hsw hs, does_set h5.frz⟩
theorem xs_setLcO {i : Nat} {y : Str} {py : Pos} {elt tg iter : Expr} {ifs : List Expr} {scope : Scope} {own : List (Str × Nat)} {pos spos : Pos} {p : Ev → Rs D} (c : Ctx X E W k) (n : Nm X i y) (hyl : ∀ j, (X j).env.scope.names.lookup y = some .local) (h : XLc X E W elt tg iter ifs scope own p) (ok : ∀ i, BlkOk (X i).N (X i).env.scope scope own)
    (hsw : ∀ j, swapsWith (.ListComp elt [⟨tg, iter, ifs, 0⟩] scope pos) (some (.Name y py)) spos.line (X j).env = pure true) (hs : ∀ i x, foldedSetIterable iter (X i).env x = pure x := by intro _ _; rfl) :
    XS X E W (.Assign [.Name y py] (.ListComp elt [⟨tg, iter, ifs, 0⟩] scope pos) spos) (pSetO i p) := by
  obtain ⟨wi, g, tt, te, h1, h2, h3, h4, h5⟩ := h
  exact ⟨_, lc_ps c n hyl h1 h2 h3 h4 ok hsw hs, does_setO h5⟩
/-- target = e -/
def pAsg (g : D → Ev → Option Ev) (p : Ev → Rs D) : Ev → Fl := pWith p fun d ρ => match g d ρ with | some ρ1 => .nx ρ1 | none => .no
theorem xs_asg {tg e : Expr} {vs : List Nat} {g : D → Ev → Option Ev} {p : Ev → Rs D} {pos : Pos} (h : XE X E W e p) (hg : XG X E tg vs g) (hs : ∀ j, swapsWithSole [tg] e pos.line (X j).env = pure false := by intro _; rfl) (hw : ∀ j, swappedStores [tg] e (X j).env = pure none := by intro _; rfl)
    (h1 : ∀ j, (assignEach [tg] (X j).env).map (·.2) = [assign tg (X j).env] := by intro _; rfl) : XS X E W (.Assign [tg] e pos) (pAsg g p) := by
  obtain ⟨t, t1, t2⟩ := h
  obtain ⟨gg, g1, g2⟩ := hg
  refine ⟨_, fun j => ps_asg (t1 j) (g1 j) (hs j) (hw j) (h1 j), fun F0 B F H σ ρ Dn x r post => ?_⟩
  show t σ H _
  refine Does.eval t2 x r post fun F1 H1 d v x1 x2 r2 g post1 => ?_
  cases e : (‹D → Ev → Option Ev›) d ρ with
  | none => rw [e] at post1; exact post1.elim
  | some ρ1 =>
    rw [e] at post1
    exact g2 B F1 H1 σ ρ d v _ ρ1 x2.fh r2 g e fun σ' r' _ _ => post1 F1 H1 σ' x2 r'
/-- a, b = x, y -/
def pPar (i j : Nat) (q : Ev → Rs (List D)) : Ev → Fl := pWith q fun ds ρ => match ds with | [d, e] => .nx ((ρ.set i (.dat d)).set j (.dat e)) | _ => .no
theorem xs_par {i j : Nat} {x y : Str} {a b : Expr} {q : Ev → Rs (List D)} {px py pt pos : Pos} {kt k2 : Nat} {pt2 : Pos} (c : Ctx X E W k) (nx : Nm X i x) (ny : Nm X j y) (hij : i ≠ j) (lx : ∀ i, (X i).env.scope.names.lookup x = some .local) (ly : ∀ i, (X i).env.scope.names.lookup y = some .local) (h : XA X E W [a, b] q)
    (hw : ∀ i, swappedStores [.Tuple [.Name x px, .Name y py] kt pt] (.Tuple [a, b] k2 pt2) (X i).env = pure (some [x, y]) := by intro _; rfl) (hs : ∀ i, swapsWithSole [.Tuple [.Name x px, .Name y py] kt pt] (.Tuple [a, b] k2 pt2) pos.line (X i).env = pure false := by intro _; rfl) :
    XS X E W (.Assign [.Tuple [.Name x px, .Name y py] kt pt] (.Tuple [a, b] k2 pt2) pos) (pPar i j q) := by
  obtain ⟨t, t1, t2⟩ := h
  refine ⟨_, fun l => ps_par (c.calm l) (nx.nd l) (nx.at_ l) (ny.at_ l) hij (lx l) (ly l) (t1 l) (hw l) (hs l), fun F0 B F H σ ρ Dn x r post => ?_⟩
  show t σ H _
  refine Does.eval t2 x r post fun F1 H1 ds vs x1 x2 r2 g post1 => ?_
  split at post1
  · obtain ⟨v, r', rfl, g1, w, r'', rfl, g2, g3⟩ := g
    cases g3
    exact ⟨v, w, rfl, post1 F1 H1 _ x2 ((r2.setD g1).setD g2)⟩
  · exact post1.elim
/-- name op= e -/
def pAug (f : D → D → Rs D) (i : Nat) (p : Ev → Rs D) : Ev → Fl := fun ρ => match ρ[i]? with
  | some (.dat d0) => pWith p (fun d ρ => match f d0 d with | .ok z => .nx (ρ.set i (.dat z)) | _ => .no) ρ
  | _ => .no
theorem xs_aug {i : Nat} {x : Str} {e : Expr} {op : Operator} {r : R2} {f : D → D → Rs D} {p : Ev → Rs D} {pos pos' : Pos} (n : Nm X i x) (ho : ∀ j, OpR (X j) (inplaceOp op) r) (hf : OpS E r f) (h : XL X E W e p) : XS X E W (.AugAssign (.Name x pos') op e pos) (pAug f i p) := by
  obtain ⟨t, t1, t2⟩ := h
  refine ⟨tAug i t r, fun j => ps_aug (n.nd j) (n.at_ j) (n.loc j) (t1 j) (fun pins s σ H x y v u Q I r1 r2 h => ho j pins s σ H x y v u Q I r1 r2 h) (n.fn j), fun F0 B F H σ ρ Dn x rr post => ?_⟩
  unfold pAug at post
  split at post
  · rename_i d0 e0
    obtain ⟨v0, s1, s2⟩ := rr.dat i d0 e0
    refine ⟨v0, s1, ?_⟩
    refine Does.eval t2 x rr post fun F1 H1 d v x1 x2 r2 g post1 => ?_
    refine hf W F1 H1 σ d0 d v0 v _ x2.fh (.inl (Rep.mono x1.f _ _ s2)) g ?_
    cases ef : f d0 d with
    | ok z =>
      rw [ef] at post1
      exact fun F2 H2 w x3 g3 => post1 F2 H2 _ (x2.trans x3) ((r2.mono x3).setD g3)
    | err c z => rw [ef] at post1; exact post1.elim
    | no => rw [ef] at post1; exact post1.elim
  · exact post.elim
def rIAddA : R2 := fun x y H Q => rI0 (fun i j => .int (i + j)) x y H Q ∨ (∃ i j, x = .str i ∧ y = .str j ∧ i.length + j.length ≤ sizeLine ∧ Q (.str (i ++ j)) H)
def fIAdd : D → D → Rs D
  | .int i, .int j => .ok (.int (i + j))
  | .str x, .str y => if x.length + y.length ≤ sizeLine then .ok (.str (x ++ y)) else .no
  | _, _ => .no
theorem ops_iadd : OpS E rIAddA fIAdd := by
  intro W F H σ dx dy x y Q s h1 h2 post
  unfold fIAdd at post
  split at post
  · exact .inl ⟨_, _, repO_int h1, repO_int h2, ev_ok s post rfl⟩
  · rename_i i j
    by_cases c : i.length + j.length ≤ sizeLine
    · rw [if_pos c] at post
      exact .inr ⟨_, _, repO_str h1, repO_str h2, c, ev_ok s post rfl⟩
    · rw [if_neg c] at post; exact post.elim
  · exact post.elim
theorem xs_iadd {i : Nat} {x : Str} {e : Expr} {p : Ev → Rs D} {pos pos' : Pos} (n : Nm X i x) (h : XL X E W e p) : XS X E W (.AugAssign (.Name x pos') .Add e pos) (pAug fIAdd i p) := xs_aug n (fun _ => iop_add.or iop_add_str) ops_iadd h

/-! ## small statements -/
def pRet (p : Ev → Rs D) : Ev → Fl := pWith p fun d _ => .rt d
theorem xs_ret {e : Expr} {p : Ev → Rs D} {pos : Pos} (h : XE X E W e p) : XS X E W (.Return (some e) pos) (pRet p) := by
  obtain ⟨t, t1, t2⟩ := h
  refine ⟨_, fun j => ps_ret (t1 j), fun F0 B F H σ ρ Dn x r post => ?_⟩
  show t σ H _
  exact Does.eval t2 x r post fun F1 H1 d v x1 x2 r2 g post1 => post1 F1 H1 v x2 g
theorem xs_retN {pos : Pos} : XS X E W (.Return none pos) (fun _ => .rt .non) := ⟨_, fun j => ps_retN, fun F0 B F H σ ρ Dn x r post => post F H _ x rfl⟩
def pDrop (p : Ev → Rs D) : Ev → Fl := pWith p fun _ ρ => .nx ρ
theorem xs_expr {e : Expr} {p : Ev → Rs D} {pos : Pos} (h : XE X E W e p) (hs : ∀ j, swapsWith e none pos.line (X j).env = pure false := by intro _; rfl) : XS X E W (.Expr e pos) (pDrop p) := by
  obtain ⟨t, t1, t2⟩ := h
  refine ⟨_, fun j => ps_expr (t1 j) (hs j), fun F0 B F H σ ρ Dn x r post => ?_⟩
  show t σ H _
  exact Does.eval t2 x r post fun F1 H1 d v x1 x2 r2 g post1 => post1 F1 H1 σ x2 r2
theorem xs_pass {pos : Pos} : XS X E W (.Pass pos) pNext := ⟨_, fun j => ps_pass, fun F0 B F H σ ρ Dn x r post => post F H σ x r⟩
theorem xs_break {pos : Pos} : XS X E W (.Break pos) Fl.bk := ⟨_, fun j => ps_break, fun F0 B F H σ ρ Dn x r post => post F H σ x r⟩
theorem xs_continue {pos : Pos} : XS X E W (.Continue pos) Fl.ct := ⟨_, fun j => ps_continue, fun F0 B F H σ ρ Dn x r post => post F H σ x r⟩
def pIfS (c : Ev → Rs Bool) (p q : Ev → Fl) : Ev → Fl := pWith c fun b ρ => if b = true then p ρ else q ρ
theorem xs_if {e : Expr} {a b : List Stmt} {pc : Ev → Rs Bool} {p q : Ev → Fl} {pos : Pos} (hc : XT X E W e pc) (ha : XSs X E W a p) (hb : XSs X E W b q) : XS X E W (.If e a b pos) (pIfS pc p q) := by
  obtain ⟨t, t1, t2⟩ := hc
  obtain ⟨ta, a1, a2⟩ := ha
  obtain ⟨tb, b1, b2⟩ := hb
  refine ⟨_, fun j => ps_if (t1 j) (a1 j) (b1 j), fun F0 B F H σ ρ Dn x r post => ?_⟩
  show t σ H _
  refine Does.eval t2 x r post fun F1 H1 bb b' x1 x2 r2 g post1 => ?_
  cases g
  cases bb with
  | true => rw [if_pos rfl]; exact a2 F0 B F1 H1 σ ρ Dn x2 r2 post1
  | false => rw [if_neg Bool.false_ne_true]; exact b2 F0 B F1 H1 σ ρ Dn x2 r2 post1
/-- ghost: an own object is handed out from here on -/
def frzE (i : Nat) (ρ : Ev) : Ev := match ρ[i]? with | some (.own d) => ρ.set i (.dat d) | _ => ρ
theorem does_frz {i : Nat} {t : TS} {p : Ev → Fl} (h : Does E W t p) : Does E W t (fun ρ => p (frzE i ρ)) := by
  intro F0 B F H σ ρ Dn x r post
  have post : PostS E W F0 B Dn (p (frzE i ρ)) := post
  unfold frzE at post
  split at post
  · rename_i d e
    obtain ⟨l, ho, h1, h2, h3, h4⟩ := r.freeze e
    exact h F0 B _ H σ _ Dn (x.frz h1 h2 h3) h4 post
  · exact h F0 B F H σ ρ Dn x r post
theorem xss_frz (i : Nat) {sts : List Stmt} {p : Ev → Fl} (h : XSs X E W sts p) : XSs X E W sts (fun ρ => p (frzE i ρ)) := by
  obtain ⟨t, t1, t2⟩ := h
  exact ⟨t, t1, does_frz t2⟩
/-- xs.append(e), xs an own list -/
def pApp (i : Nat) (p : Ev → Rs D) : Ev → Fl := fun ρ => match ρ[i]? with
  | some (.own (.lst ds)) => pWith p (fun d ρ => if ds.length < sizeLine then .nx (ρ.set i (.own (.lst (ds ++ [d])))) else .no) ρ
  | _ => .no
theorem xs_app {i : Nat} {o e : Expr} {p : Ev → Rs D} {apos cpos pos : Pos} (c : Ctx X E W k) (ho : ∀ j, PE (X j) o (tVar i)) (h : XE X E W e p) (hbase : ∀ j, attributeBase o "append" (X j).env (eval o (X j).env) = eval o (X j).env := by intro _; rfl)
    (hfew : ∀ j, ((backTo cpos (starEach (e :: []) (X j).env)).all (fun x => !x.1) && (backToKw cpos (keywordEach [] (X j).env)).all (fun x => x.1.isSome) && decide ((e :: ([] : List Expr)).length + ([] : List Keyword).length + (if ([] : List Keyword).isEmpty then 0 else 1) < 30)) = true := by intro _; rfl)
    (hline : (apos.endLine == cpos.line) = true := by rfl) (hs : ∀ j, starEach (e :: []) (X j).env = (false, eval e (X j).env) :: starEach [] (X j).env := by intro _; rfl) (hplain : ∀ j, (backTo cpos (starEach [] (X j).env)).any (·.1) = false := by intro _; rfl)
    (hsw : ∀ j, swapsWith (.Call (.Attribute o "append" apos) [e] [] cpos) none pos.line (X j).env = pure false := by intro _; rfl) : XS X E W (.Expr (.Call (.Attribute o "append" apos) [e] [] cpos) pos) (pApp i p) := by
  obtain ⟨t, t1, t2⟩ := h
  refine ⟨tDrop (tBM E.K "list" rAppend (tVar i) (tCons t tNil)), fun j => by rw [← c.K j]; exact ps_expr (pe_bm PySem.F.plainAttrs_list PySem.F.slot_list_append PySem.F.type_list_append mt_append (ho j) (pa_cons (t1 j) pa_nil (hs j)) (hbase j) (hfew j) hline (hs j) (hplain j)) (hsw j), fun F0 B F H σ ρ Dn x r post => ?_⟩
  unfold pApp at post
  split at post
  · rename_i ds q
    obtain ⟨l, ho', s1, s2, s3, s4, vs, rfl, s5⟩ := r.own i _ q
    refine ⟨_, s1, .inl ⟨rfl, vs, SqL.of s2⟩, ?_⟩
    show t σ H _
    refine Does.eval t2 x r post fun F1 H1 d' v x1 x2 r2 g post1 => ?_
    by_cases cz : ds.length < sizeLine
    · rw [if_pos cz] at post1
      have hl1 : H1 l = some (.lst vs) := x1.h _ _ s2
      have hf1 : F1 l = none := by rw [x1.nf l (by rw [s2]; simp)]; exact s3
      refine ⟨l, vs, v, rfl, rfl, hl1, by rw [← s5.len]; exact cz, ?_⟩
      exact post1 F1 _ σ (x2.wr hf1 s4) (r2.write q s1 hf1 s4 ⟨_, rfl, (RepL.mono x1.f _ _ s5).append (.cons g rfl)⟩)
    · rw [if_neg cz] at post1; exact post1.elim
  · exact post.elim
end
end DL
end

section
set_option linter.all false
set_option maxRecDepth 100000
set_option maxHeartbeats 4000000
namespace DL
open PySem PySem.Spec L2
section
variable {I : Type} {X : I → Cx} {E : Am} {W : WX} {k : Nat}

theorem Ext.re {F0 B F H : Hp} (x : Ext F0 B F H) : Ext F B F H := ⟨Same.refl F, x.h, x.fh, fun _ _ => rfl⟩
theorem Ext.comp {F0 B F H F' H' : Hp} (x : Ext F0 B F H) (y : Ext F B F' H') : Ext F0 B F' H' := ⟨x.f.trans y.f, y.h, y.fh, fun l hl => (y.nf l hl).trans (x.nf l hl)⟩
theorem PostS.re {E : Am} {W : WX} {F0 B F H : Hp} {Dn : Ends} {r : Fl} (x : Ext F0 B F H) (h : PostS E W F0 B Dn r) : PostS E W F B Dn r := by
  cases r with
  | nx ρ => exact fun F' H' σ' y r' => h F' H' σ' (x.comp y) r'
  | bk ρ => exact fun F' H' σ' y r' => h F' H' σ' (x.comp y) r'
  | ct ρ => exact fun F' H' σ' y r' => h F' H' σ' (x.comp y) r'
  | rt d => exact fun F' H' v y r' => h F' H' v (x.comp y) r'
  | err c z ρ => exact fun F' H' σ' cls dd y r' e => h F' H' σ' cls dd (x.comp y) r' e
  | no => exact h
/-! ## for -/
def forL (g : D → Ev → Option Ev) (body : Ev → Fl) : List D → Ev → Fl
  | [], ρ => .nx ρ
  | d :: ds, ρ => match g d ρ with
    | none => .no
    | some ρ1 => match body ρ1 with
      | .nx ρ2 => forL g body ds ρ2
      | .ct ρ2 => forL g body ds ρ2
      | .bk ρ2 => .nx ρ2
      | .rt d => .rt d
      | .err c x ρ2 => .err c x ρ2
      | .no => .no
def pFor (ps : Ev → Rs (List D)) (g : D → Ev → Option Ev) (body : Ev → Fl) : Ev → Fl := pWith ps fun ds ρ => forL g body ds ρ
theorem xs_for {tg iter : Expr} {body : List Stmt} {pos : Pos} {ps : Ev → Rs (List D)} {vs : List Nat} {g : D → Ev → Option Ev} {pb : Ev → Fl} (c : Ctx X E W k) (hi : XI X E W tg iter ps) (hg : XG X E tg vs g) (hb : XSs X E W body pb)
    (hs : ∀ i x, foldedSetIterable iter (X i).env x = pure x := by intro _ _; rfl) : XS X E W (.For tg iter body [] pos) (pFor ps g pb) := by
  obtain ⟨wi, i1, i2⟩ := hi
  obtain ⟨gg, g1, g2⟩ := hg
  obtain ⟨tb, b1, b2⟩ := hb
  refine ⟨_, fun j => ps_for (c.po j) (c.calm j) (i1 j) (g1 j) (b1 j) (hs j), fun F0 B F H σ ρ Dn x r post => ?_⟩
  show wi σ H _
  refine Does.eval i2 x r post fun F1 H1 ds J x1 x2 r2 src post1 => ?_
  obtain ⟨G, Y, wk, hG, hY⟩ := src
  refine for_it wk (Pv := fun i σ' H' => ∃ F' ρ', Ext F0 B F' H' ∧ Same F1 F' ∧ StR E B F' H' σ' ρ' ∧ PostS E W F0 B Dn (forL g pb (ds.drop i) ρ'))
    ⟨F1, ρ, x2, Same.refl F1, r2, by rw [List.drop_zero]; exact post1⟩ (fun i σ' H' _ ⟨F', _, x', s', _⟩ => hG H' (s'.trans x'.fh)) ?_ ?_
  · rintro i y σ' H2 H3 hin ⟨F2, ρ2, x3, s3, r3, p3⟩ yy
    have hd : ds[i]? = some ds[i] := List.getElem?_eq_getElem hin
    obtain ⟨F3, x4, rx⟩ := hY i H2 y H3 F2 _ hd s3 x3.fh yy
    have x34 := x3.trans x4
    rw [List.drop_eq_getElem_cons hin] at p3
    unfold forL at p3
    split at p3
    · exact p3.elim
    · rename_i ρ3 eg
      refine g2 B F3 H3 σ' ρ2 ds[i] y _ ρ3 x4.fh (r3.mono x4) rx eg fun σ4 r4 _ _ => ?_
      refine b2 F3 B F3 H3 σ4 ρ3 _ x34.re r4 ?_
      cases eb : pb ρ3 with
      | nx ρ5 =>
        rw [eb] at p3
        exact fun F5 H5 σ5 x5 r5 => ⟨F5, ρ5, x34.comp x5, s3.trans (x4.f.trans x5.f), r5, p3⟩
      | ct ρ5 =>
        rw [eb] at p3
        exact fun F5 H5 σ5 x5 r5 => ⟨F5, ρ5, x34.comp x5, s3.trans (x4.f.trans x5.f), r5, p3⟩
      | bk ρ5 => rw [eb] at p3; exact fun F5 H5 σ5 x5 r5 => p3 F5 H5 σ5 (x34.comp x5) r5
      | rt d => rw [eb] at p3; exact fun F5 H5 v x5 r5 => p3 F5 H5 v (x34.comp x5) r5
      | err cc z ρ5 => rw [eb] at p3; exact fun F5 H5 σ5 cls dd x5 r5 e5 => p3 F5 H5 σ5 cls dd (x34.comp x5) r5 e5
      | no => rw [eb] at p3; exact p3
  · rintro σ' H2 ⟨F2, ρ2, x3, s3, r3, p3⟩
    rw [List.drop_length] at p3
    exact p3 F2 H2 σ' x3 r3

/-! ## while -/
def whL (c : Ev → Rs Bool) (body : Ev → Fl) : Nat → Ev → Fl
  | 0, _ => .no
  | n + 1, ρ => match c ρ with
    | .ok true => (match body ρ with
      | .nx ρ2 => whL c body n ρ2
      | .ct ρ2 => whL c body n ρ2
      | .bk ρ2 => .nx ρ2
      | .rt d => .rt d
      | .err c x ρ2 => .err c x ρ2
      | .no => .no)
    | .ok false => .nx ρ
    | .err c x => .err c x ρ
    | .no => .no
def pWhile (fuel : Ev → Nat) (c : Ev → Rs Bool) (body : Ev → Fl) : Ev → Fl := fun ρ => whL c body (fuel ρ) ρ
theorem xs_while {e : Expr} {body : List Stmt} {pos : Pos} {pc : Ev → Rs Bool} {pb : Ev → Fl} (fuel : Ev → Nat) (c : Ctx X E W k) (hc : XT X E W e pc) (hb : XSs X E W body pb) : XS X E W (.While e body [] pos) (pWhile fuel pc pb) := by
  obtain ⟨tc, c1, c2⟩ := hc
  obtain ⟨tb, b1, b2⟩ := hb
  refine ⟨_, fun j => ps_while (c.po j) (c1 j) (b1 j), fun F0 B F H σ ρ Dn x r post => ?_⟩
  refine ⟨fun m σ' H' => ∃ F' ρ', Ext F0 B F' H' ∧ StR E B F' H' σ' ρ' ∧ PostS E W F0 B Dn (whL pc pb m ρ'), ⟨fuel ρ, F, ρ, x, r, post⟩, ?_⟩
  rintro m σ' H' ⟨F', ρ', x', r', p'⟩
  cases m with
  | zero => exact (show False from p').elim
  | succ m =>
    unfold whL at p'
    show tc σ' H' _
    refine c2 B F' H' σ' ρ' _ x'.fh x'.h r' ?_
    cases ec : pc ρ' with
    | no => rw [ec] at p'; exact p'
    | err cc z => rw [ec] at p'; exact fun F1 H1 cls dd x1 g => p' F1 H1 σ' cls dd (x'.trans x1) (r'.mono x1) g
    | ok b =>
      rw [ec] at p'
      intro F1 H1 b' x1 g
      cases g
      cases b with
      | false => rw [if_neg Bool.false_ne_true]; exact p' F1 H1 σ' (x'.trans x1) (r'.mono x1)
      | true =>
        rw [if_pos rfl]
        refine ⟨fun σ2 H2 => ∃ F2 ρ2, Ext F0 B F2 H2 ∧ StR E B F2 H2 σ2 ρ2 ∧ PostS E W F0 B Dn (whL pc pb m ρ2), fun σ2 H2 w => ⟨m, Nat.lt_succ_self m, w⟩, ?_⟩
        refine b2 F0 B F1 H1 σ' ρ' _ (x'.trans x1) (r'.mono x1) ?_
        simp only at p'
        cases eb : pb ρ' with
        | nx ρ5 => rw [eb] at p'; exact fun F5 H5 σ5 x5 r5 => ⟨F5, ρ5, x5, r5, p'⟩
        | ct ρ5 => rw [eb] at p'; exact fun F5 H5 σ5 x5 r5 => ⟨F5, ρ5, x5, r5, p'⟩
        | bk ρ5 => rw [eb] at p'; exact p'
        | rt d => rw [eb] at p'; exact p'
        | err cc z ρ5 => rw [eb] at p'; exact p'
        | no => rw [eb] at p'; exact p'

/-! ## raise, try -/
/-- raise C('..'), a class of the program without an __init__ -/
theorem xs_raise {x m : Str} {j : Nat} {C : Addr} {p1 p2 p3 pos : Pos} {bmB : List Value} {B0 newId initId : String} (c : Ctx X E W k) (F : PySem.ExcBaseFacts B0 newId initId bmB) (hE : E.cl x = C) (q : PySem.W.excIn E.K C bmB newId = true) (gC : ∀ i, (X i).mg x = some (.ref C)) (kC : PySem.W.keepIn E.K (.ref C) = true) (r : ∀ i, Raises (X i) (.ref C)) (hg : ∀ i, Gl (X i) x) (hdb : (x == ("__debug__" : Str)) = false := by decide) :
    XS X E W (.Raise (some (.Call (.Name x p1) [.Constant (.str m) j p2] [] p3)) none pos) (fun ρ => .err x none ρ) := by
  refine ⟨_, fun i => ps_raise (c.calm i) (c.tk i) (pmk_own F (by rw [c.K i]; exact q) (gC i) (by rw [c.K i]; exact kC) (r i) (hg i) hdb), fun F0 B F H σ ρ Dn xx rr post => ?_⟩
  exact post F H σ (.ref C) none xx rr ⟨by rw [hE], rfl⟩
end
end DL
end

section
set_option linter.all false
set_option maxRecDepth 100000
set_option maxHeartbeats 4000000
namespace DL
open PySem PySem.Spec L2

/-! ## defs and their promises -/
abbrev WF (Ex : XK) : WX := fun cls dd _ H => Ex cls dd H
/-- the def computes f -/
def spF (E : Am) (n : Nat) (f : List D → Rs D) : Sp := fun vs H Q Ex => ∃ F ds, Same F H ∧ RepL E F ds vs ∧ ds.length = n ∧ Post E (WF Ex) [] F H (GS E H) Q (f ds)
theorem spF_len {E : Am} {n : Nat} {f : List D → Rs D} {vs : List V} {H : Hp} {Q : VK} {Ex : XK} (h : spF E n f vs H Q Ex) : vs.length = n := by
  obtain ⟨F, ds, _, r, hl, _⟩ := h
  rw [← r.len]; exact hl
def runF (m : Nat) (p : Ev → Fl) (ds : List D) : Rs D := match p (ds.map .dat ++ List.replicate (m - ds.length) .unb) with
  | .nx _ => .ok .non | .rt d => .ok d | .err c x _ => .err c x | _ => .no
theorem start_str {E : Am} {B F H : Hp} {N : List Str} {ds : List D} {vs : List V} (h : RepL E F ds vs) : StR E B F H (L2.start N vs) (ds.map .dat ++ List.replicate (N.length - ds.length) .unb) := by
  have hl := h.len
  have noown : ∀ (i : Nat) (d : D), (ds.map EV.dat ++ List.replicate (N.length - ds.length) EV.unb)[i]? ≠ some (.own d) := fun i d e => by
    have hm := List.mem_of_getElem? e
    rcases List.mem_append.mp hm with z | z
    · obtain ⟨y, _, q⟩ := List.mem_map.mp z; cases q
    · have := List.eq_of_mem_replicate z; cases this
  have nopin : ∀ (i : Nat) (v : V), (ds.map EV.dat ++ List.replicate (N.length - ds.length) EV.unb)[i]? ≠ some (.pin v) := fun i d e => by
    have hm := List.mem_of_getElem? e
    rcases List.mem_append.mp hm with z | z
    · obtain ⟨y, _, q⟩ := List.mem_map.mp z; cases q
    · have := List.eq_of_mem_replicate z; cases this
  refine ⟨by unfold L2.start; simp [hl], fun i d e => ?_, fun i d e => absurd e (noown i d), fun i j d d' l _ e => absurd e (noown i d), fun i v e => absurd e (nopin i v)⟩
  by_cases hi : i < ds.length
  · rw [List.getElem?_append_left (by simpa using hi), List.getElem?_map] at e
    cases q : ds[i]? with
    | none => rw [q] at e; cases e
    | some x =>
      rw [q] at e; cases e
      obtain ⟨v, e1, e2⟩ := h.get q
      refine ⟨v, ?_, e2⟩
      unfold L2.start
      rw [List.getElem?_append_left (by simp; omega), List.getElem?_map, e1]; rfl
  · rw [List.getElem?_append_right (by simpa using hi)] at e
    have := List.eq_of_mem_replicate (List.mem_of_getElem? e)
    cases this
section
variable {P : Program} {w : World} {E : Am} {mg : Str → Option Value} {base : Heap}
/-- the context of a def's body -/
abbrev Bd (P : Program) (w : World) (E : Am) (mg : Str → Option Value) (base : Heap) (N : List Str) (qual : Str) (sc : Scope) (f : Addr) (cdv : Value) (A : Around) (outer : List Env) (s : Shared) (H : Hp) (Ex : XK) : Unit → Cx := fun _ => cxOf (L2.CX P w) P w E.K mg base N qual sc f cdv A outer s H Ex
theorem bd_ctx {N : List Str} {qual : Str} {sc : Scope} {f : Addr} {cdv : Value} {A : Around} {outer : List Env} {s : Shared} {H : Hp} {Ex : XK} {k : Nat} (hr : Room k (A.deeper (PyProof.Rows.envOfC qual sc s.heap.objs.size f cdv))) : Ctx (Bd P w E mg base N qual sc f cdv A outer s H Ex) E (WF Ex) k :=
  ⟨fun _ => rfl, fun _ => rfl, fun _ => hr, fun _ => takes_of rfl rfl rfl rfl, fun _ => passes_of rfl⟩
theorem fn_ok {x qual : Str} {st : Stmt} {f : Addr} {fd : FuncData} {N ps : List Str} {k : Nat} {p : Ev → Fl} (F : Fun E.K x qual st f fd) (S : FnScope N ps (defScope st))
    (body : ∀ (cdv : Value) (A : Around) (outer : List Env) (s : Shared) (H : Hp) (Ex : XK), Room k (A.deeper (PyProof.Rows.envOfC qual (defScope st) s.heap.objs.size f cdv)) → XSs (Bd P w E mg base N qual (defScope st) f cdv A outer s H Ex) E (WF Ex) (defBody st) p) :
    FnOk P w E.K mg base (L2.CX P w) (k + 1) f fd ps (spF E ps.length (runF N.length p)) := by
  refine F.okX S (fun vs H Q Ex h => spF_len h) (fun cdv A outer s H vs Q Ex hr h => ?_)
  obtain ⟨t, t1, t2⟩ := body cdv A outer s H Ex hr
  refine ⟨t, t1 (), ?_⟩
  obtain ⟨F0, ds, sm, r, hl, post⟩ := h
  refine t2 F0 H F0 H _ _ _ (Ext.refl sm) (start_str (N := N) r) ?_
  unfold runF at post
  cases e : p (ds.map EV.dat ++ List.replicate (N.length - ds.length) EV.unb) with
  | nx ρ => rw [e] at post; exact fun F' H' σ' x' _ => post F' H' .non x' rfl
  | rt d => rw [e] at post; exact fun F' H' v x' g => post F' H' v x' g
  | err c z ρ => rw [e] at post; exact fun F' H' σ' cls dd x' _ g => post F' H' cls dd x' g
  | bk ρ => rw [e] at post; exact post.elim
  | ct ρ => rw [e] at post; exact post.elim
  | no => rw [e] at post; exact post.elim
end
section
variable {I : Type} {X : I → Cx} {E : Am} {W : WX} {k : Nat}
/-- f(a, ..): the arguments, then the defaults -/
def pFn (f : List D → Rs D) (dds : List D) (q : Ev → Rs (List D)) : Ev → Rs D := fun ρ => (q ρ).bind fun ds => f (ds ++ dds)
theorem post_fn {E : Am} {W : WX} {σ : L2.St} {F H : Hp} {Q : VK} {r : Rs D} (h : Post E W σ F H (GS E H) Q r) : Post E (WF (WE W σ)) [] F H (GS E H) Q r := by
  cases r with
  | ok a => exact h
  | err c x => exact h
  | no => exact h
theorem evals_fn {n : Nat} {f : List D → Rs D} {dds : List D} {dvs : List V} {t : TA} {q : Ev → Rs (List D)} (hd : ∀ F, RepL E F dds dvs) (hn : ∀ ds r, f ds = r → r = .no ∨ ds.length = n) (h : Evals E W (GA E) t q) : Evals E W (GS E) (tCallSD (spF E n f) dvs (WE W) t) (pFn f dds q) := by
  intro B F H σ ρ Q s sb r post
  show t σ H _
  refine Evals.seq h s sb r post fun F1 H1 ds vs e1 x1 sb1 r1 gg post1 => ?_
  rcases hn (ds ++ dds) _ rfl with z | z
  · rw [z] at post1; exact post1.elim
  · exact ⟨F1, ds ++ dds, x1.fh, gg.append (hd F1), z, post_fn post1⟩
/-- f wants n arguments -/
def arity (n : Nat) (f : List D → Rs D) : List D → Rs D := fun ds => if ds.length = n then f ds else .no
theorem arity_n {n : Nat} {f : List D → Rs D} : ∀ ds r, arity n f ds = r → r = .no ∨ ds.length = n := fun ds r e => by
  unfold arity at e
  by_cases c : ds.length = n
  · exact .inr c
  · rw [if_neg c] at e; exact .inl e.symm
theorem sp_arity {n : Nat} {f : List D → Rs D} {vs : List V} {H : Hp} {Q : VK} {Ex : XK} (h : spF E n (arity n f) vs H Q Ex) : spF E n f vs H Q Ex := by
  obtain ⟨F, ds, a, b, c, d⟩ := h
  refine ⟨F, ds, a, b, c, ?_⟩
  unfold arity at d
  rw [if_pos c] at d
  exact d
theorem xe_call {j n : Nat} {f : Addr} {fd : FuncData} {ps : List Str} {fn : List D → Rs D} {dds : List D} {dvs : List V} {ds : List Value} {x : Str} {p pos : Pos} {e : Expr} {es : List Expr} {q : Ev → Rs (List D)} (c : Ctx X E W k)
    (G : ∀ i, FnOk (X i).prog (X i).w (X i).K (X i).mg (X i).base (L2.CX (X i).prog (X i).w) j f fd ps (spF E n fn)) (hj : j ≤ k) (hg : ∀ i, Gl (X i) x) (hm : ∀ i, (X i).mg x = some (.ref f)) (hk : PySem.W.keepIn E.K (.ref f) = true) (hb : Binds E.K fd ps ds) (hd : Vals dvs ds) (hD : ∀ F, RepL E F dds dvs) (ha : XA X E W (e :: es) q)
    (hdb : (x == ("__debug__" : Str)) = false := by decide) (he : ∀ i, starEach (e :: es) (X i).env = (false, eval e (X i).env) :: starEach es (X i).env := by intro _; rfl) (hpl : ∀ i, (backTo pos (starEach es (X i).env)).any (·.1) = false := by intro _; rfl) : XE X E W (.Call (.Name x p) (e :: es) [] pos) (pFn (arity n fn) dds q) := by
  obtain ⟨t, a1, a2⟩ := ha
  refine ⟨_, fun i => pe_callSD ((G i).imp fun vs H Q Ex h => sp_arity h) ((c.room i).mono hj) (hg i) (hm i) (by rw [c.K i]; exact hk) (by rw [c.K i]; exact hb) hd (fun σ => passAt (c.tk i) σ) (a1 i) hdb (he i) (hpl i), evals_fn hD arity_n a2⟩
/-- f() -/
theorem xe_call0 {j n : Nat} {f : Addr} {fd : FuncData} {ps : List Str} {fn : List D → Rs D} {x : Str} {p pos : Pos} (c : Ctx X E W0 k)
    (G : ∀ i, FnOk (X i).prog (X i).w (X i).K (X i).mg (X i).base (L2.CX (X i).prog (X i).w) j f fd ps (spF E n fn)) (hj : j ≤ k) (hg : ∀ i, Gl (X i) x) (hm : ∀ i, (X i).mg x = some (.ref f)) (hk : PySem.W.keepIn E.K (.ref f) = true) (hb : Binds E.K fd ps [])
    (hdb : (x == ("__debug__" : Str)) = false := by decide) : XE X E W0 (.Call (.Name x p) [] [] pos) (pFn (arity n fn) [] pNil) := by
  refine ⟨tCall (spF E n (arity n fn)) [] E0 tNil, fun i => pe_call0 ((G i).imp fun vs H Q Ex h => sp_arity h) ((c.room i).mono hj) (hg i) (hm i) (by rw [c.K i]; exact hk) (by rw [c.K i]; exact hb) .nil passL hdb, ?_⟩
  have h := evals_fn (E := E) (W := W0) (n := n) (f := arity n fn) (dds := []) (dvs := []) (t := tNil) (q := pNil) (fun F => rfl) arity_n (fun B F H σ ρ Q s sb r post => ev_ok s post rfl)
  exact h

/-! ## methods -/
def tMethSD (C : Addr) (m : Str) (sp : Sp) (Ex : L2.St → XK) (ta : TE) (t : TA) : TE := fun σ H Q => ta σ H fun x H1 => ∃ a dx fs, x = .ref a ∧ H1 a = some (.ins C dx fs) ∧ fs.lookup m = none ∧ t σ H1 fun vs H2 => sp (x :: (vs ++ [])) H2 Q (Ex σ)
theorem pe_methSD {X : Cx} {CX : CXT} {k : Nat} {f C : Addr} {fd : FuncData} {ps : List Str} {sp : Sp} {Ex : L2.St → XK} {m : Str} {pos apos : Pos} {e o : Expr} {es : List Expr} {ta : TE} {t : TA} {pl : Sem Bool} (he : PE X o ta) (c : Cls X.K C) (hm : Meth X.K C m f) (F : FnOk X.prog X.w X.K X.mg X.base CX k f fd ps sp) (hr : Room k X.A) (hb : Binds X.K fd ps []) (hx : ∀ σ, PassesAt CX X σ (Ex σ)) (ha : PA X (e :: es) t)
    (hst : starEach (e :: es) X.env = (false, eval e X.env) :: starEach es X.env := by rfl) (hpl : (backTo pos (starEach es X.env)).any (·.1) = false := by rfl)
    (ht : eval (.Call (.Attribute o m apos) (e :: es) [] pos) X.env = (do
      let ov ← eval o X.env
      standAt apos.atName
      let (f, first) ← holding [ov] (getMethod ov m pl)
      callWith pos f first (backTo pos (starEach (e :: es) X.env)) (backToKw pos (keywordEach [] X.env))) := by rfl) :
    PE X (.Call (.Attribute o m apos) (e :: es) [] pos) (tMethSD C m sp Ex ta t) := by
  refine ⟨fun pins s σ H Q I h => ?_⟩
  refine PySem.W.methodCall_KW (pl := pl) (thn (he.run pins s σ H _ I h) fun u s1 ⟨x, H1, I1, rx, a, dx, fs, ex, ea, l, q⟩ => ?_) ht
  subst ex
  obtain rfl : u = Value.ref a := rx
  refine getmeth_ok I1 ea c hm l ?_
  refine PySem.W.callWith_K (first := [.ref a]) (h₀ := X.base) I.ok.mod.kin hm.kp (thn (ha.run pos pins s1 σ H1 _ I1 q) fun us s2 ⟨vs, H2, I2, r, q2⟩ => ⟨I2.kIn, ?_⟩) hst hpl
  exact run_fnSD (us := .ref a :: us) (vs := .ref a :: vs) F hr hb .nil (hx σ) I2 (.cons rfl r) q2
theorem pe_methSD0 {X : Cx} {CX : CXT} {k : Nat} {f C : Addr} {fd : FuncData} {ps : List Str} {sp : Sp} {Ex : L2.St → XK} {m : Str} {pos apos : Pos} {o : Expr} {ta : TE} {pl : Sem Bool} (he : PE X o ta) (c : Cls X.K C) (hm : Meth X.K C m f) (F : FnOk X.prog X.w X.K X.mg X.base CX k f fd ps sp) (hr : Room k X.A) (hb : Binds X.K fd ps []) (hx : ∀ σ, PassesAt CX X σ (Ex σ))
    (ht : eval (.Call (.Attribute o m apos) [] [] pos) X.env = (do
      let ov ← eval o X.env
      standAt apos.atName
      let (f, first) ← holding [ov] (getMethod ov m pl)
      callWith pos f first (backTo pos (starEach [] X.env)) (backToKw pos (keywordEach [] X.env))) := by rfl) :
    PE X (.Call (.Attribute o m apos) [] [] pos) (tMethSD C m sp Ex ta tNil) := by
  refine ⟨fun pins s σ H Q I h => ?_⟩
  refine PySem.W.methodCall_KW (pl := pl) (thn (he.run pins s σ H _ I h) fun u s1 ⟨x, H1, I1, rx, a, dx, fs, ex, ea, l, q⟩ => ?_) ht
  subst ex
  obtain rfl : u = Value.ref a := rx
  refine getmeth_ok I1 ea c hm l ?_
  exact PySem.W.callWith_K0 (first := [.ref a]) I1.kIn hm.kp (run_fnSD (us := [.ref a]) (vs := [.ref a]) F hr hb .nil (hx σ) I1 (.cons rfl .nil) q)
/-- o.m(e, ..), o a datum of the class C -/
def pMeth (C m : Str) (f : List D → Rs D) (p : Ev → Rs D) (q : Ev → Rs (List D)) : Ev → Rs D := fun ρ => (p ρ).bind fun d => match d with
  | .ins C' ns fs => if C' = C ∧ m ∉ ns then (q ρ).bind fun ds => f (.ins C' ns fs :: ds) else .no
  | _ => .no
theorem evals_meth {n : Nat} {C m : Str} {f : List D → Rs D} {ta : TE} {t : TA} {p : Ev → Rs D} {q : Ev → Rs (List D)} (hn : ∀ ds r, f ds = r → r = .no ∨ ds.length = n) (hp : Evals E W (GS E) ta p) (h : Evals E W (GA E) t q) : Evals E W (GS E) (tMethSD (E.cl C) m (spF E n f) (WE W) ta t) (pMeth C m f p q) := by
  intro B F H σ ρ Q s sb r post
  show ta σ H _
  refine Evals.seq hp s sb r post fun F1 H1 d v e1 x1 sb1 r1 gg post1 => ?_
  cases d <;> first | exact post1.elim | skip
  rename_i C' ns fs
  have pz : Post E W σ F1 H1 (GS E H) Q (if C' = C ∧ m ∉ ns then (q ρ).bind fun ds => f (.ins C' ns fs :: ds) else .no) := post1
  by_cases cc : C' = C ∧ m ∉ ns
  · rw [if_pos cc] at pz
    clear post1
    obtain ⟨rfl, cm⟩ := cc
    obtain ⟨a, dx, vs, rfl, q1, q2, q3⟩ := repO_ins x1.fh (.inl gg)
    refine ⟨a, dx, _, rfl, q1, look_none cm, ?_⟩
    show t σ H1 _
    refine Evals.seq h x1.fh sb1 r1 pz fun F2 H2 ds us e2 x2 sb2 r2 g2 post2 => ?_
    rcases hn (.ins C' ns fs :: ds) _ rfl with z | z
    · rw [z] at post2; exact post2.elim
    · refine ⟨F2, .ins C' ns fs :: ds, x2.fh, .cons (Rep.mono x2.f _ _ gg) ?_, z, post_fn post2⟩
      rw [List.append_nil]; exact g2
  · rw [if_neg cc] at pz; exact pz.elim
theorem xe_meth {j n : Nat} {f : Addr} {fd : FuncData} {ps : List Str} {fn : List D → Rs D} {C m : Str} {fs : List Str} {pos apos : Pos} {e o : Expr} {es : List Expr} {p : Ev → Rs D} {q : Ev → Rs (List D)} {pl : I → Sem Bool} (c : Ctx X E W k) (hc : ClsOk E C fs) (hme : Meth E.K (E.cl C) m f)
    (G : ∀ i, FnOk (X i).prog (X i).w (X i).K (X i).mg (X i).base (L2.CX (X i).prog (X i).w) j f fd ps (spF E n fn)) (hj : j ≤ k) (hb : Binds E.K fd ps []) (ho : XE X E W o p) (ha : XA X E W (e :: es) q)
    (hst : ∀ i, starEach (e :: es) (X i).env = (false, eval e (X i).env) :: starEach es (X i).env := by intro _; rfl) (hpl : ∀ i, (backTo pos (starEach es (X i).env)).any (·.1) = false := by intro _; rfl)
    (ht : ∀ i, eval (.Call (.Attribute o m apos) (e :: es) [] pos) (X i).env = (do
      let ov ← eval o (X i).env
      standAt apos.atName
      let (f, first) ← holding [ov] (getMethod ov m (pl i))
      callWith pos f first (backTo pos (starEach (e :: es) (X i).env)) (backToKw pos (keywordEach [] (X i).env))) := by intro _; rfl) : XE X E W (.Call (.Attribute o m apos) (e :: es) [] pos) (pMeth C m (arity n fn) p q) := by
  obtain ⟨ta, o1, o2⟩ := ho
  obtain ⟨t, a1, a2⟩ := ha
  exact ⟨_, fun i => pe_methSD (o1 i) (by rw [c.K i]; exact hc.cl) (by rw [c.K i]; exact hme) ((G i).imp fun vs H Q Ex h => sp_arity h) ((c.room i).mono hj) (by rw [c.K i]; exact hb) (fun σ => passAt (c.tk i) σ) (a1 i) (hst i) (hpl i) (ht i), evals_meth arity_n o2 a2⟩
theorem xe_meth0 {j n : Nat} {f : Addr} {fd : FuncData} {ps : List Str} {fn : List D → Rs D} {C m : Str} {fs : List Str} {pos apos : Pos} {o : Expr} {p : Ev → Rs D} {pl : I → Sem Bool} (c : Ctx X E W k) (hc : ClsOk E C fs) (hme : Meth E.K (E.cl C) m f)
    (G : ∀ i, FnOk (X i).prog (X i).w (X i).K (X i).mg (X i).base (L2.CX (X i).prog (X i).w) j f fd ps (spF E n fn)) (hj : j ≤ k) (hb : Binds E.K fd ps []) (ho : XE X E W o p)
    (ht : ∀ i, eval (.Call (.Attribute o m apos) [] [] pos) (X i).env = (do
      let ov ← eval o (X i).env
      standAt apos.atName
      let (f, first) ← holding [ov] (getMethod ov m (pl i))
      callWith pos f first (backTo pos (starEach [] (X i).env)) (backToKw pos (keywordEach [] (X i).env))) := by intro _; rfl) : XE X E W (.Call (.Attribute o m apos) [] [] pos) (pMeth C m (arity n fn) p pNil) := by
  obtain ⟨ta, o1, o2⟩ := ho
  exact ⟨_, fun i => pe_methSD0 (o1 i) (by rw [c.K i]; exact hc.cl) (by rw [c.K i]; exact hme) ((G i).imp fun vs H Q Ex h => sp_arity h) ((c.room i).mono hj) (by rw [c.K i]; exact hb) (fun σ => passAt (c.tk i) σ) (ht i), evals_meth arity_n o2 (fun B F H σ ρ Q s sb r post => ev_ok s post rfl)⟩
end
end DL
end

section
set_option linter.all false
set_option maxRecDepth 100000
set_option maxHeartbeats 4000000
namespace DL
open PySem PySem.Spec L2

/-! ## data of the written part -/
mutual
def repB (K : PySem.W.Frag) : D → Value → Bool
  | .non, .none => true
  | .bl b, .bool c => b == c
  | .int i, .int j _ => decide (i = j)
  | .str x, .str y _ => decide (x = y)
  | .tup ds, .ref a => (match K.lookup a with
    | some ⟨.type c, _, .seq its _, _⟩ => decide (c = "tuple") && decide (its.size ≤ sizeLine) && repBL K ds its.toList
    | _ => false)
  | .kl ds, .ref a => (match K.lookup a with
    | some ⟨.type c, none, .seq its _, _⟩ => decide (c = "list") && decide (its.size ≤ sizeLine) && repBL K ds its.toList
    | _ => false)
  | _, _ => false
def repBL (K : PySem.W.Frag) : List D → List Value → Bool
  | [], [] => true
  | d :: ds, u :: us => repB K d u && repBL K ds us
  | _, _ => false
end
section
variable {E : Am}
mutual
theorem repB_ok : ∀ (d : D) (u : Value), repB E.K d u = true → ∃ v, RelV v u ∧ ∀ F, Rep E F d v
  | .non, u, h => by
    cases u <;> first | (simp [repB] at h; done) | exact ⟨.non, rfl, fun _ => rfl⟩
  | .bl b, u, h => by
    cases u <;> first | (simp [repB] at h; done) | skip
    rename_i c
    have e : b = c := by simpa [repB] using h
    subst e
    exact ⟨.bl b, rfl, fun _ => rfl⟩
  | .int i, u, h => by
    cases u <;> first | (simp [repB] at h; done) | skip
    rename_i c t
    have e : i = c := by simpa [repB] using h
    subst e
    exact ⟨.int i, ⟨t, rfl⟩, fun _ => rfl⟩
  | .str i, u, h => by
    cases u <;> first | (simp [repB] at h; done) | skip
    rename_i c t
    have e : i = c := by simpa [repB] using h
    subst e
    exact ⟨.str i, ⟨t, rfl⟩, fun _ => rfl⟩
  | .tup ds, u, h => by
    cases u <;> first | (simp [repB] at h; done) | skip
    rename_i a
    unfold repB at h
    split at h
    · rename_i c _ its n _ q
      obtain ⟨h1, h3⟩ := Bool.and_eq_true_iff.mp h
      obtain ⟨h1, h2⟩ := Bool.and_eq_true_iff.mp h1
      obtain ⟨vs, r1, r2⟩ := repBL_ok ds its.toList h3
      refine ⟨.ref a, rfl, fun F => ⟨a, vs, rfl, .inr ⟨_, its, n, q, congrArg Value.type (of_decide_eq_true h1), rfl, of_decide_eq_true h2, r1⟩, r2 F⟩⟩
    · cases h
  | .kl ds, u, h => by
    cases u <;> first | (simp [repB] at h; done) | skip
    rename_i a
    unfold repB at h
    split at h
    · rename_i c its n _ q
      obtain ⟨h1, h3⟩ := Bool.and_eq_true_iff.mp h
      obtain ⟨h1, h2⟩ := Bool.and_eq_true_iff.mp h1
      obtain ⟨vs, r1, r2⟩ := repBL_ok ds its.toList h3
      refine ⟨.ref a, rfl, fun F => ⟨a, vs, rfl, .inr ⟨_, its, n, q, congrArg Value.type (of_decide_eq_true h1), rfl, rfl, of_decide_eq_true h2, r1⟩, r2 F⟩⟩
    · cases h
  | .lst _, u, h => by cases u <;> simp [repB] at h
  | .ins _ _ _, u, h => by cases u <;> simp [repB] at h
  | .dk _ _, u, h => by cases u <;> simp [repB] at h
  | .dt _ _, u, h => by cases u <;> simp [repB] at h
theorem repBL_ok : ∀ (ds : List D) (us : List Value), repBL E.K ds us = true → ∃ vs, Vals vs us ∧ ∀ F, RepL E F ds vs
  | [], [], _ => ⟨[], .nil, fun _ => rfl⟩
  | [], _ :: _, h => by simp [repBL] at h
  | _ :: _, [], h => by simp [repBL] at h
  | d :: ds, u :: us, h => by
    have h' : (repB E.K d u && repBL E.K ds us) = true := by simpa [repBL] using h
    obtain ⟨h1, h2⟩ := Bool.and_eq_true_iff.mp h'
    obtain ⟨v, r1, r2⟩ := repB_ok d u h1
    obtain ⟨vs, q1, q2⟩ := repBL_ok ds us h2
    exact ⟨v :: vs, .cons r1 q1, fun F => .cons (r2 F) (q2 F)⟩
end
/-- the module's name x is the datum d -/
def conB (x : Str) (d : D) (K : PySem.W.Frag) : Bool := match PySem.W.nsIn K mainGlobals x with
  | some (some u) => repB K d u
  | _ => false
/-- the module's name x is the built-in id -/
def bltB (x : Str) (id : String) (K : PySem.W.Frag) : Bool := match PySem.W.nsIn K mainGlobals x with
  | some (some (.builtin j)) => decide (j = id)
  | _ => false
/-- the object at p is the datum d -/
def adrB (p : PySem.W.Frag → Addr) (d : D) (K : PySem.W.Frag) : Bool := repB K d (.ref (p K))
theorem con_ok {h : Heap} {mg : Str → Option Value} {x : Str} {d : D} (X : E.K.In h) (G : h.Ns mainGlobals mg) (c : conB x d E.K = true) : ∃ u v, mg x = some u ∧ RelV v u ∧ ∀ F, Rep E F d v := by
  unfold conB at c
  split at c
  · rename_i u q
    obtain ⟨v, r1, r2⟩ := repB_ok d u c
    exact ⟨u, v, PySem.W.mg_of X G q, r1, r2⟩
  · cases c
theorem blt_ok {h : Heap} {mg : Str → Option Value} {x : Str} {id : String} (X : E.K.In h) (G : h.Ns mainGlobals mg) (c : bltB x id E.K = true) : mg x = some (.builtin id) := by
  unfold bltB at c
  split at c
  · rename_i u q
    have e : u = id := of_decide_eq_true c
    subst e
    exact PySem.W.mg_of X G q
  · cases c
theorem adr_ok {p : PySem.W.Frag → Addr} {d : D} (c : adrB p d E.K = true) : ∀ F, Rep E F d (.ref (p E.K)) := by
  obtain ⟨v, r1, r2⟩ := repB_ok d _ c
  cases v <;> first | (obtain ⟨_, q⟩ := r1; cases q; done) | (cases r1; done) | skip
  rename_i a
  cases r1
  exact r2
/-- a constant of the module -/
structure Con (mg : Str → Option Value) (E : Am) (x : Str) (d : D) : Prop where
  ex : ∃ u v, mg x = some u ∧ RelV v u ∧ ∀ F, Rep E F d v
theorem xe_con {I : Type} {X : I → Cx} {W : WX} {x : Str} {d : D} {pos : Pos} {mg : Str → Option Value} (h : Con mg E x d) (hm : ∀ i, (X i).mg x = mg x) (hg : ∀ i, Gl (X i) x) (hd : (x == ("__debug__" : Str)) = false := by decide) : XE X E W (.Name x pos) (pC d) := by
  obtain ⟨u, v, h1, h2, h3⟩ := h.ex
  exact xe_c (fun i => pe_glob (hg i) ((hm i).trans h1) h2 hd) h3
end
/-! ## the facts by names -/
open He in
def obsE (fa : List Fa) (ex : List (PySem.W.Frag → Bool)) (fn : List DefD) (K : PySem.W.Frag) : AlD := ((fa.all fun f => f.ok K) && ((ex.all fun f => f K) && fn.all fun d => d.ok K), fn.map fun d => fnW K d.at_)
def SaysE (fa : List He.Fa) (ex : List (PySem.W.Frag → Bool)) (fn : List He.DefD) (K : PySem.W.Frag) : Prop := obsE fa ex fn K = He.valD fn
def obsEG (n : Nat) (fa : List He.Fa) (ex : List (PySem.W.Frag → Bool)) (fn : List He.DefD) (g : Addr → Option Obj) : He.AlD := obsE fa ex fn (He.frG g (He.asD g n))
def hookE (n : Nat) (fa : List He.Fa) (ex : List (PySem.W.Frag → Bool)) (fn : List He.DefD) : PySem.W.Hook where
  α := He.AlD
  obs := fun s => obsEG n fa ex fn s.heap.get?
  val := fun _ => He.valD fn
  says := fun _ h => ∃ K : PySem.W.Frag, K.In h ∧ SaysE fa ex fn K
  of := fun _ _ e => ⟨_, He.frG_in, e⟩
  keeps := fun _ _ _ ⟨K, hK, c⟩ k => ⟨K, PySem.W.Frag.In.keeps hK k, c⟩
theorem obsEG_eq {n : Nat} {fa : List He.Fa} {ex : List (PySem.W.Frag → Bool)} {fn : List He.DefD} {g : Addr → Option Obj} {s : Shared} (h : ∀ a, g a = s.heap.get? a) : obsEG n fa ex fn g = (hookE n fa ex fn).obs s := by
  have e : g = s.heap.get? := funext h
  rw [e] <;> rfl
section
variable {fa : List He.Fa} {ex : List (PySem.W.Frag → Bool)} {fn : List He.DefD} {K : PySem.W.Frag}
theorem SaysE.both (c : SaysE fa ex fn K) : ((fa.all fun f => f.ok K) && ((ex.all fun f => f K) && fn.all fun d => d.ok K)) = true := congrArg (fun z : He.AlD => z.1) c
theorem SaysE.fact (c : SaysE fa ex fn K) (i : Nat) {f : He.Fa} (h : fa[i]? = some f := by rfl) : f.ok K = true :=
  List.all_eq_true.mp (Bool.and_eq_true_iff.mp c.both).1 f (List.mem_of_getElem? h)
theorem SaysE.ext (c : SaysE fa ex fn K) (i : Nat) {f : PySem.W.Frag → Bool} (h : ex[i]? = some f := by rfl) : f K = true :=
  List.all_eq_true.mp (Bool.and_eq_true_iff.mp (Bool.and_eq_true_iff.mp c.both).2).1 f (List.mem_of_getElem? h)
theorem SaysE.def_ (c : SaysE fa ex fn K) (i : Nat) {d : He.DefD} (h : fn[i]? = some d := by rfl) : ∃ fd, FunD K d.name d.qual d.params d.body d.scope (d.dvs K) (d.kws K) (He.fAd K d.at_) fd := by
  have c2 := (Bool.and_eq_true_iff.mp (Bool.and_eq_true_iff.mp c.both).2).2
  have e : fn.map (fun d => He.fnW K d.at_) = fn.map He.DefD.val := congrArg (fun z : He.AlD => z.2) c
  have e2 : (fn.map fun d => He.fnW K d.at_)[i]? = (fn.map He.DefD.val)[i]? := by rw [e]
  rw [List.getElem?_map, List.getElem?_map, h] at e2
  exact He.DefD.funD (Option.some.inj e2) (List.all_eq_true.mp c2 d (List.mem_of_getElem? h))
end
/-! ## a def by its row -/
section
variable {P : Program} {w : World} {E : Am} {mg : Str → Option Value} {base : Heap}
theorem fn_okD {x qual : Str} {params : Arguments} {body : List Stmt} {sc : Scope} {dvs : List V} {kws : List (Str × V)} {f : Addr} {fd : FuncData} {N ps : List Str} {k : Nat} {p : Ev → Fl} (F : FunD E.K x qual params body sc dvs kws f fd) (S : FnScope N ps sc)
    (hb : ∀ (cdv : Value) (A : Around) (outer : List Env) (s : Shared) (H : Hp) (Ex : XK), Room k (A.deeper (PyProof.Rows.envOfC qual sc s.heap.objs.size f cdv)) → XSs (Bd P w E mg base N qual sc f cdv A outer s H Ex) E (WF Ex) body p) :
    FnOk P w E.K mg base (L2.CX P w) (k + 1) f fd ps (spF E ps.length (runF N.length p)) := by
  refine F.ok S (fun vs H Q Ex h => spF_len h) (fun cdv A outer s H vs Q Ex hr h => ?_)
  obtain ⟨t, t1, t2⟩ := hb cdv A outer s H Ex hr
  refine ⟨t, t1 (), ?_⟩
  obtain ⟨F0, ds, sm, r, hl, post⟩ := h
  refine t2 F0 H F0 H _ _ _ (Ext.refl sm) (start_str (N := N) r) ?_
  unfold runF at post
  cases e : p (ds.map EV.dat ++ List.replicate (N.length - ds.length) EV.unb) with
  | nx ρ => rw [e] at post; exact fun F' H' σ' x' _ => post F' H' .non x' rfl
  | rt d => rw [e] at post; exact fun F' H' v x' g => post F' H' v x' g
  | err c z ρ => rw [e] at post; exact fun F' H' σ' cls dd x' _ g => post F' H' cls dd x' g
  | bk ρ => rw [e] at post; exact post.elim
  | ct ρ => rw [e] at post; exact post.elim
  | no => rw [e] at post; exact post.elim
theorem law_sp {E : Am} {f : List D → Rs D} (h : ∀ ns : List Int, ns.length ≤ 63 → f [.kl (ns.map .int)] = .ok (.bl true)) (H : Hp) (a : Addr) (ns : List Int) (hl : ns.length ≤ 63) (hS : SqL E.K H a (ns.map V.int)) : spF E 1 f [.ref a] H (fun v _ => v = .bl true) fun _ _ _ => False := by
  have hr : ∀ ns : List Int, RepL E H (ns.map D.int) (ns.map V.int) := fun ns => by
    induction ns with
    | nil => exact rfl
    | cons n ns ih => exact .cons rfl ih
  refine ⟨H, [.kl (ns.map .int)], Same.refl H, .cons ⟨a, _, rfl, hS, hr ns⟩ rfl, rfl, ?_⟩
  rw [h ns hl]
  exact fun F' H' v _ g => g
theorem law_cx {P : Program} {w : World} (H : Hp) (s : Shared) (e : Value) (s' : Shared) : L2.CX P w [] H s (fun _ _ _ => False) e s' → False := by
  rintro ⟨_, _, _, _, _, _, _, _, _, _, _, _, z⟩
  exact z
end
end DL
end

section
set_option linter.all false
set_option maxRecDepth 100000
set_option maxHeartbeats 4000000
namespace DL
open PySem PySem.Spec L2
variable {I : Type} {X : I → Cx} {E : Am} {W : WX} {k : Nat}

/-! ## slices of any kind, strict -/
def fSl (d : D) (lo hi : Option Int) : Rs D := match itemsL d with
  | some ds => .ok (.lst (cutD ds lo hi))
  | none => fSlS d lo hi
def rSl3 (K : PySem.W.Frag) : V → Option Int → Option Int → Hp → VK → Prop := fun x lo hi H Q => rSlL K x lo hi H Q ∨ (rSlS x lo hi H Q ∨ rSlT K x lo hi H Q)
theorem xe_slice {e : Expr} {lo hi : Option Expr} {pos p2 : Pos} {p : Ev → Rs D} {l h : Ev → Rs (Option Int)} (c : Ctx X E W k) (he : XL X E W e p) (hl : XO X E W lo l) (hh : XO X E W hi h) : XE X E W (.Subscript e (.Slice lo hi none p2) pos) (pSl fSl p l h) := by
  obtain ⟨t, h1, h2⟩ := he
  obtain ⟨tl, l1, l2⟩ := hl
  obtain ⟨th, u1, u2⟩ := hh
  refine ⟨tSl (rSl3 E.K) t tl th, fun i => by rw [← c.K i]; exact pe_slice (sl_list.or (sl_str.or sl_tup)) (h1 i) (l1 i) (u1 i), ?_⟩
  intro B F H σ ρ Q s sb r post
  show t σ H _
  refine Evals.seq h2 s sb r post fun F1 H1 d v e1 x1 sb1 r1 gg post1 => ?_
  show tl σ H1 _
  refine Evals.seq l2 x1.fh sb1 r1 post1 fun F2 H2 o o' e2 x2 sb2 r2 g2 post2 => ?_
  cases g2
  show th σ H2 _
  refine Evals.seq u2 x2.fh sb2 r2 post2 fun F3 H3 o2 o2' e3 x3 sb3 r3 g3 post3 => ?_
  cases g3
  have gg := (gg.mono x2).mono x3
  unfold fSl at post3
  split at post3
  · rename_i ds ed
    obtain ⟨a, vs, rfl, q1, q2⟩ := repO_list x3.fh ed gg
    exact .inl ⟨a, vs, rfl, q1, fun p hp => post3 _ _ _ (Ext.new x3.fh hp) (gs_newL x3.fh hp (repL_cut q2 _ _))⟩
  · clear post1 post2
    right
    cases d with
    | str z =>
      have post3 : Post E W σ F3 H3 (GS E H3) Q (if z.length ≤ sizeLine then .ok (.str (cutS z o o2)) else .no) := post3
      by_cases c : z.length ≤ sizeLine
      · rw [if_pos c] at post3
        exact .inl ⟨z, repO_str gg, c, ev_ok x3.fh post3 rfl⟩
      · rw [if_neg c] at post3; exact post3.elim
    | tup ds =>
      have post3 : Post E W σ F3 H3 (GS E H3) Q (if HT.sIx ds.length 0 o = 0 ∧ HT.sIx ds.length ds.length o2 = ds.length then .no else .ok (.tup (cutD ds o o2))) := post3
      by_cases c : HT.sIx ds.length 0 o = 0 ∧ HT.sIx ds.length ds.length o2 = ds.length
      · rw [if_pos c] at post3; exact post3.elim
      · rw [if_neg c] at post3
        obtain ⟨a, vs, rfl, q1, q2⟩ := repO_tup gg
        refine .inr ⟨a, vs, rfl, sqT_mono x3.fh q1, by rw [← q2.len]; exact c, fun p hp => post3 _ _ _ (Ext.new x3.fh hp) (gs_newT x3.fh hp (repL_cut q2 _ _))⟩
    | _ => exact post3.elim

/-! ## isinstance(x, T) -/
def tyN : D → String
  | .non => "NoneType" | .bl _ => "bool" | .int _ => "int" | .str _ => "str" | .tup _ => "tuple" | .lst _ => "list" | .kl _ => "list" | .dk _ _ => "dict" | .dt _ _ => "dict" | .ins _ _ _ => "object"
def isiB (a b : String) : Bool := a == b || (a == "bool" && b == "int")
def isiOk (a b : String) : Bool := ["NoneType", "bool", "int", "str", "tuple", "list", "dict"].contains a && ["bool", "int", "str", "tuple", "list", "dict"].contains b
theorem kit_all : (["NoneType", "bool", "int", "str", "tuple", "list", "dict"].all fun a => ["bool", "int", "str", "tuple", "list", "dict"].all fun b => decide (kitB a b = some (isiB a b))) = true := by decide +kernel
theorem kit_is {a b : String} (h : isiOk a b = true) : kitB a b = some (isiB a b) := by
  obtain ⟨h1, h2⟩ := Bool.and_eq_true_iff.mp h
  have := List.all_eq_true.mp (List.all_eq_true.mp kit_all a (List.contains_iff_mem.mp h1)) b (List.contains_iff_mem.mp h2)
  exact of_decide_eq_true this
theorem tyx_of {F H : Hp} (s : Same F H) {d : D} {v : V} (hd : ∀ C ns fs, d ≠ .ins C ns fs) (h : RepO E F H d v) : TyX E.K H v (.type (tyN d)) := by
  cases d with
  | non => cases repO_non h; exact .base .non
  | bl b => cases repO_bl h; exact .base (.bl _)
  | int b => cases repO_int h; exact .base (.int _)
  | str b => cases repO_str h; exact .base (.str _)
  | tup ds =>
    obtain ⟨a, vs, rfl, h2, _⟩ := repO_tup h
    rcases sqT_mono s h2 with (h2 | ⟨o, h2⟩) | ⟨o, its, n, h2, h3, _⟩
    · exact .base (.tup h2)
    · exact .fTuple h2
    · exact .kTuple h2 h3
  | lst ds =>
    obtain ⟨a, vs, rfl, h2, _⟩ := repO_lstH s h
    exact .base (.lst h2)
  | kl ds =>
    rcases h with ⟨a, vs, rfl, h2, _⟩ | ⟨_, _, _, _, q⟩
    · rcases sqL_mono s h2 with (h2 | ⟨o, h2⟩) | ⟨o, its, n, h2, h3, _⟩
      · exact .base (.lst h2)
      · exact .base (.frz h2)
      · exact .kList h2 h3
    · exact q.elim
  | dk ks ds =>
    rcases h with ⟨a, vs, rfl, q2, _⟩ | ⟨l, ho, rfl, q2, vs, q3, _⟩
    · exact .base (.dK (s _ _ q2))
    · subst q3; exact .base (.dK q2)
  | dt ks ds =>
    rcases h with ⟨a, vs, rfl, q2, _⟩ | ⟨l, ho, rfl, q2, vs, q3, _⟩
    · exact .base (.dT (s _ _ q2))
    · subst q3; exact .base (.dT q2)
  | ins C ns fs => exact absurd rfl (hd C ns fs)
def pIsi (T : String) (p : Ev → Rs D) : Ev → Rs D := fun ρ => (p ρ).bind fun d => if isiOk (tyN d) T then .ok (.bl (isiB (tyN d) T)) else .no
theorem evals_isi {T : String} {ta : TE} {p : Ev → Rs D} (h : Evals E W (GL E) ta p) : Evals E W (GS E) (tCB (rIsi E.K) (tCons ta (tCons (tC (.ty T)) tNil))) (pIsi T p) := by
  intro B F H σ ρ Q s sb r post
  show ta σ H _
  refine Evals.seq h s sb r post fun F1 H1 d v e1 x1 sb1 r1 gg post1 => ?_
  by_cases c : isiOk (tyN d) T = true
  · rw [if_pos c] at post1
    have nd : ∀ C ns fs, d ≠ .ins C ns fs := fun C ns fs e => by subst e; simp [isiOk, tyN] at c
    exact ⟨v, .ty T, _, _, isiB (tyN d) T, rfl, .ty T, tyx_of x1.fh nd gg, kit_ty (kit_is c), ev_ok x1.fh post1 rfl⟩
  · rw [if_neg c] at post1; exact post1.elim
theorem xe_isi {a b : Expr} {T : String} {p pos : Pos} {pa : Ev → Rs D} (c : Ctx X E W k) (hg : ∀ i, Gl (X i) "isinstance") (hm : ∀ i, (X i).mg "isinstance" = none) (ha : XL X E W a pa) (hb : ∀ i, PE (X i) b (tC (.ty T)))
    (h1 : ∀ i, starEach [a, b] (X i).env = (false, eval a (X i).env) :: starEach [b] (X i).env := by intro _; rfl) (h2 : ∀ i, starEach [b] (X i).env = (false, eval b (X i).env) :: starEach [] (X i).env := by intro _; rfl) (hpl : ∀ i, (backTo pos (starEach [b] (X i).env)).any (·.1) = false := by intro _; rfl) : XE X E W (.Call (.Name "isinstance" p) [a, b] [] pos) (pIsi T pa) := by
  obtain ⟨t, a1, a2⟩ := ha
  exact ⟨tCB (rIsi E.K) (tCons t (tCons (tC (.ty T)) tNil)), fun i => by rw [← c.K i]; exact pe_callB call_isi (hg i) (hm i) (by decide +kernel) (pa_cons (a1 i) (pa_cons (hb i) pa_nil (h2 i)) (h1 i)) (he := h1 i) (hpl := hpl i), evals_isi a2⟩
theorem pe_ty {Y : Cx} {x : Str} {T : String} {pos : Pos} (hg : Gl Y x) (hm : Y.mg x = none) (hv : bootBuiltins x = some (.type T)) (hn : x ≠ "__name__" := by decide) (hd : (x == ("__debug__" : Str)) = false := by decide) : PE Y (.Name x pos) (tC (.ty T)) := pe_bltn hg hm hv rfl hn hd
/-! isinstance(x, (T1, T2, ..)) -/
def isiAny (a : String) : List String → Bool
  | [] => false
  | b :: r => isiB a b || isiAny a r
theorem kitAny_is {K : PySem.W.Frag} {a : String} : ∀ {Ts : List String}, (Ts.all fun b => isiOk a b) = true → PySem.W.kitAny K (.type a) (Ts.map Value.type) = some (isiAny a Ts)
  | [], _ => rfl
  | b :: r, h => by
    rw [List.all_cons, Bool.and_eq_true] at h
    refine kitAny_cons (kit_ty (kit_is h.1)) (fun e => ?_) (fun e => ?_)
    · rw [kitAny_is h.2]
      show some (isiAny a r) = some (isiB a b || isiAny a r)
      rw [e, Bool.false_or]
    · show (isiB a b || isiAny a r) = true
      rw [e, Bool.true_or]
def pIsiT (Ts : List String) (p : Ev → Rs D) : Ev → Rs D := fun ρ => (p ρ).bind fun d => if Ts.all fun b => isiOk (tyN d) b then .ok (.bl (isiAny (tyN d) Ts)) else .no
inductive Tys {I : Type} (X : I → Cx) : List Expr → List String → Prop
  | nil : Tys X [] []
  | cons {e : Expr} {T : String} {es : List Expr} {Ts : List String} (h : ∀ i, PE (X i) e (tC (.ty T))) (hs : ∀ i, starEach (e :: es) (X i).env = (false, eval e (X i).env) :: starEach es (X i).env) (t : Tys X es Ts) : Tys X (e :: es) (T :: Ts)
def tTys : List String → TA
  | [] => tNil
  | T :: Ts => tCons (tC (.ty T)) (tTys Ts)
theorem Tys.pa {es : List Expr} {Ts : List String} (h : Tys X es Ts) : ∀ i, PA (X i) es (tTys Ts) := by
  induction h with
  | nil => exact fun _ => pa_nil
  | cons h hs t ih => exact fun i => pa_cons (h i) (ih i) (hs i)
theorem tTys_run {σ : L2.St} {H : Hp} {Q : List V → Hp → Prop} : ∀ {Ts : List String}, Q (Ts.map V.ty) H → tTys Ts σ H Q
  | [], h => h
  | T :: Ts, h => by
    show tTys Ts σ H fun vs H1 => Q (.ty T :: vs) H1
    exact tTys_run (Q := fun vs H1 => Q (.ty T :: vs) H1) h
theorem cls_tys : ∀ Ts : List String, Paired ClsV (Ts.map V.ty) (Ts.map Value.type)
  | [] => .nil
  | T :: Ts => .cons (.ty T) (cls_tys Ts)
theorem xe_isiT {a : Expr} {es : List Expr} {Ts : List String} {kk : Nat} {p tp pos : Pos} {pa : Ev → Rs D} (c : Ctx X E W k) (hg : ∀ i, Gl (X i) "isinstance") (hm : ∀ i, (X i).mg "isinstance" = none) (ha : XL X E W a pa) (hb : Tys X es Ts) (hT : Ts ≠ []) (hz : Ts.length ≤ 100)
    (h1 : ∀ i, starEach [a, .Tuple es kk tp] (X i).env = (false, eval a (X i).env) :: starEach [.Tuple es kk tp] (X i).env := by intro _; rfl) (h2 : ∀ i, starEach [.Tuple es kk tp] (X i).env = (false, eval (.Tuple es kk tp) (X i).env) :: starEach [] (X i).env := by intro _; rfl) (hpl : ∀ i, (backTo pos (starEach [.Tuple es kk tp] (X i).env)).any (·.1) = false := by intro _; rfl) : XE X E W (.Call (.Name "isinstance" p) [a, .Tuple es kk tp] [] pos) (pIsiT Ts pa) := by
  obtain ⟨t, a1, a2⟩ := ha
  refine ⟨tCB (rIsiT E.K) (tCons t (tCons (tTup (tTys Ts)) tNil)), fun i => by rw [← c.K i]; exact pe_callB call_isiT (hg i) (hm i) (by decide +kernel) (pa_cons (a1 i) (pa_cons (pe_tup (hb.pa i)) pa_nil (h2 i)) (h1 i)) (he := h1 i) (hpl := hpl i), fun B F H σ ρ Q s sb r post => ?_⟩
  show t σ H _
  refine Evals.seq a2 s sb r post fun F1 H1 d v e1 x1 sb1 r1 gg post1 => ?_
  by_cases c : (Ts.all fun b => isiOk (tyN d) b) = true
  · rw [if_pos c] at post1
    show tTys Ts σ H1 _
    refine tTys_run ⟨by rw [List.length_map]; exact Nat.le_trans hz (by decide), fun p hp => ?_⟩
    have nd : Ts ≠ [] → ∀ C ns fs, d ≠ .ins C ns fs := fun h0 C ns fs e => by
      subst e
      cases Ts with
      | nil => exact h0 rfl
      | cons T _ =>
        rw [List.all_cons, Bool.and_eq_true] at c
        have c1 := c.1
        simp [isiOk, tyN] at c1
    exact ⟨v, p, _, _, _, isiAny (tyN d) Ts, rfl, upd_same, cls_tys Ts, tyx_of (same_upd x1.fh hp) (nd hT) (gg.mono (Ext.newH x1.fh hp)), kitAny_is c, post1 F1 _ _ (Ext.newH x1.fh hp) rfl⟩
  · rw [if_neg c] at post1; exact post1.elim
end DL
namespace DL
open PySem PySem.Spec L2
/-- a def of the text computes fn -/
structure FnX (P : Program) (w : World) (E : Am) (mg : Str → Option Value) (base : Heap) (k : Nat) (f : Addr) (ps : List Str) (fn : List D → Rs D) : Prop where
  ex : ∃ fd, FnOk P w E.K mg base (L2.CX P w) k f fd ps (spF E ps.length fn) ∧ Binds E.K fd ps [] ∧ PySem.W.keepIn E.K (.ref f) = true
theorem fnX_mk {P : Program} {w : World} {E : Am} {mg : Str → Option Value} {base : Heap} {x qual : Str} {params : Arguments} {body : List Stmt} {sc : Scope} {dvs : List V} {kws : List (Str × V)} {f : Addr} {fd : FuncData} {N ps : List Str} {k m : Nat} {p : Ev → Fl} {fn : List D → Rs D} (F : FunD E.K x qual params body sc dvs kws f fd) (S : FnScope N ps sc) (hm : N.length = m) (hfn : fn = runF m p)
    (B : Binds E.K fd ps []) (hb : ∀ (cdv : Value) (A : Around) (outer : List Env) (s : Shared) (H : Hp) (Ex : XK), Room k (A.deeper (PyProof.Rows.envOfC qual sc s.heap.objs.size f cdv)) → XSs (Bd P w E mg base N qual sc f cdv A outer s H Ex) E (WF Ex) body p) : FnX P w E mg base (k + 1) f ps fn := by
  subst hm hfn
  exact ⟨fd, fn_okD F S hb, B, F.kp⟩
theorem fnOk_mk {P : Program} {w : World} {E : Am} {mg : Str → Option Value} {base : Heap} {x qual : Str} {params : Arguments} {body : List Stmt} {sc : Scope} {dvs : List V} {kws : List (Str × V)} {f : Addr} {fd : FuncData} {N ps : List Str} {k m n : Nat} {p : Ev → Fl} {fn : List D → Rs D} (F : FunD E.K x qual params body sc dvs kws f fd) (S : FnScope N ps sc) (hm : N.length = m) (hn : ps.length = n) (hfn : fn = runF m p)
    (hb : ∀ (cdv : Value) (A : Around) (outer : List Env) (s : Shared) (H : Hp) (Ex : XK), Room k (A.deeper (PyProof.Rows.envOfC qual sc s.heap.objs.size f cdv)) → XSs (Bd P w E mg base N qual sc f cdv A outer s H Ex) E (WF Ex) body p) : FnOk P w E.K mg base (L2.CX P w) (k + 1) f fd ps (spF E n fn) := by
  subst hm hn hfn
  exact fn_okD F S hb
theorem fnOk_nox {P : Program} {w : World} {K : PySem.W.Frag} {mg : Str → Option Value} {base : Heap} {k : Nat} {f : Addr} {fd : FuncData} {ps : List Str} {sp : Sp} (F : FnOk P w K mg base (L2.CX P w) k f fd ps sp) : FnOk P w K mg base CX0 k f fd ps (fun vs H Q _ => sp vs H Q fun _ _ _ => False) :=
  ⟨fun vs H Q Ex h => F.len vs H Q _ h, fun A outer s H args us vs Q Ex hr e0 hb r h => PySem.codeAny_mono (F.run A outer s H args us vs Q _ hr e0 hb r h) fun res s' hq => by
    cases res with
    | error e =>
      obtain ⟨_, _, _, _, _, _, _, _, _, _, _, _, z⟩ := hq
      exact z.elim
    | ok fl => cases fl <;> exact hq⟩
abbrev mkE (K : PySem.W.Frag) : Am := ⟨K, He.ga K⟩
def pB (p : Ev → Rs D) : Ev → Rs Bool := fun ρ => (p ρ).bind toB
def pTr (p : Ev → Rs D) : Ev → Rs Bool := fun ρ => (p ρ).bind tru
def pFrz (i : Nat) (p : Ev → Fl) : Ev → Fl := fun ρ => p (frzE i ρ)
def fuelI (i : Nat) (ρ : Ev) : Nat := match ρ[i]? with | some (.dat (.int n)) => n.natAbs + 1 | _ => 0
section
variable {I : Type} {X : I → Cx} {E : Am} {W : WX} {k : Nat} {mg : Str → Option Value}
theorem zt_cmp {op : CmpOp} {a b : Expr} {pos : Pos} {pa pb : Ev → Rs D} {f : D → D → Rs D} (h : CmpR X E op f) (ha : XL X E W a pa) (hb : XL X E W b pb) (hm : behindInMarks op b = false) : XT X E W (.Compare a [op] [b] pos) (pB (pBin f pa pb)) := yt_cmp h ha hb hm
theorem zt_chain {op op' : CmpOp} {a b d : Expr} {pos : Pos} {pa pb pd : Ev → Rs D} {f f' : D → D → Rs D} (h : CmpR X E op f) (h' : CmpR X E op' f') (ha : XL X E W a pa) (hb : XL X E W b pb) (hd : XL X E W d pd) (hm : lastMarks [op, op'] [b, d] = false := by with_unfolding_all rfl) : XT X E W (.Compare a [op, op'] [b, d] pos) (pB (pChain f f' pa pb pd)) := yt_chain h h' ha hb hd hm
theorem zt_val {a : Expr} {p : Ev → Rs D} (h : XL X E W a p) (c : Ctx X E W k) (he : ∀ i whole, isTrue a (X i).env whole = (do let v ← whole; standAt a.pos; holding [v] (truthy v)) := by intro _ _; rfl) : XT X E W a (pTr p) := xt_val h c he
theorem zss_frz (i : Nat) {sts : List Stmt} {p : Ev → Fl} (h : XSs X E W sts p) : XSs X E W sts (pFrz i p) := xss_frz i h
/-- not e, by truth -/
def pNotT (p : Ev → Rs Bool) : Ev → Rs D := fun ρ => (p ρ).bind fun b => .ok (.bl (!b))
section
variable {e e2 : Expr} {p pos : Pos} {q : Ev → Rs (List D)}
theorem ye_len (c : Ctx X E W k) (hn : mg "len" = none) (hm : ∀ i, (X i).mg "len" = mg "len") (hg : ∀ i, Gl (X i) "len") (ha : XAL X E W [e] q)
    (he : ∀ i, starEach [e] (X i).env = (false, eval e (X i).env) :: starEach [] (X i).env := by intro _; rfl) (hpl : ∀ i, (backTo pos (starEach [] (X i).env)).any (·.1) = false := by intro _; rfl) : XE X E W (.Call (.Name "len" p) [e] [] pos) (pCall fLen q) :=
  xe_callB (fun i => by rw [← c.K i]; exact call_lenA) cals_len hg (fun i => (hm i).trans hn) PySem.boot_len ha (he := he) (hpl := hpl)
theorem ye_abs (c : Ctx X E W k) (hn : mg "abs" = none) (hm : ∀ i, (X i).mg "abs" = mg "abs") (hg : ∀ i, Gl (X i) "abs") (ha : XAL X E W [e] q)
    (he : ∀ i, starEach [e] (X i).env = (false, eval e (X i).env) :: starEach [] (X i).env := by intro _; rfl) (hpl : ∀ i, (backTo pos (starEach [] (X i).env)).any (·.1) = false := by intro _; rfl) : XE X E W (.Call (.Name "abs" p) [e] [] pos) (pCall fAbs q) :=
  xe_callB (fun i => call_abs) cals_abs hg (fun i => (hm i).trans hn) (by decide +kernel) ha (he := he) (hpl := hpl)
theorem ye_sum (c : Ctx X E W k) (hn : mg "sum" = none) (hm : ∀ i, (X i).mg "sum" = mg "sum") (hg : ∀ i, Gl (X i) "sum") (ha : XAL X E W [e] q)
    (he : ∀ i, starEach [e] (X i).env = (false, eval e (X i).env) :: starEach [] (X i).env := by intro _; rfl) (hpl : ∀ i, (backTo pos (starEach [] (X i).env)).any (·.1) = false := by intro _; rfl) : XE X E W (.Call (.Name "sum" p) [e] [] pos) (pCall fSum q) :=
  xe_callB (fun i => by rw [← c.K i]; exact cr_sum (c.calm i)) cals_sum hg (fun i => (hm i).trans hn) (by decide +kernel) ha (he := he) (hpl := hpl)
theorem ye_any (c : Ctx X E W k) (hn : mg "any" = none) (hm : ∀ i, (X i).mg "any" = mg "any") (hg : ∀ i, Gl (X i) "any") (ha : XAL X E W [e] q)
    (he : ∀ i, starEach [e] (X i).env = (false, eval e (X i).env) :: starEach [] (X i).env := by intro _; rfl) (hpl : ∀ i, (backTo pos (starEach [] (X i).env)).any (·.1) = false := by intro _; rfl) : XE X E W (.Call (.Name "any" p) [e] [] pos) (pCall fAny q) :=
  xe_callB (fun i => by rw [← c.K i]; exact cr_any (c.calm i)) cals_any hg (fun i => (hm i).trans hn) (by decide +kernel) ha (he := he) (hpl := hpl)
theorem ye_all (c : Ctx X E W k) (hn : mg "all" = none) (hm : ∀ i, (X i).mg "all" = mg "all") (hg : ∀ i, Gl (X i) "all") (ha : XAL X E W [e] q)
    (he : ∀ i, starEach [e] (X i).env = (false, eval e (X i).env) :: starEach [] (X i).env := by intro _; rfl) (hpl : ∀ i, (backTo pos (starEach [] (X i).env)).any (·.1) = false := by intro _; rfl) : XE X E W (.Call (.Name "all" p) [e] [] pos) (pCall fAll q) :=
  xe_callB (fun i => by rw [← c.K i]; exact cr_all (c.calm i)) cals_all hg (fun i => (hm i).trans hn) (by decide +kernel) ha (he := he) (hpl := hpl)
theorem ye_int (c : Ctx X E W k) (hn : mg "int" = none) (hm : ∀ i, (X i).mg "int" = mg "int") (hg : ∀ i, Gl (X i) "int") (ha : XAL X E W [e] q)
    (he : ∀ i, starEach [e] (X i).env = (false, eval e (X i).env) :: starEach [] (X i).env := by intro _; rfl) (hpl : ∀ i, (backTo pos (starEach [] (X i).env)).any (·.1) = false := by intro _; rfl) : XE X E W (.Call (.Name "int" p) [e] [] pos) (pCall fInt q) :=
  xe_callTy (fun i => call_int1) cals_int hg (fun i => (hm i).trans hn) (by decide +kernel) ha (he := he) (hpl := hpl)
theorem ye_tuple (c : Ctx X E W k) (hn : mg "tuple" = none) (hm : ∀ i, (X i).mg "tuple" = mg "tuple") (hg : ∀ i, Gl (X i) "tuple") (ha : XAL X E W [e] q)
    (he : ∀ i, starEach [e] (X i).env = (false, eval e (X i).env) :: starEach [] (X i).env := by intro _; rfl) (hpl : ∀ i, (backTo pos (starEach [] (X i).env)).any (·.1) = false := by intro _; rfl) : XE X E W (.Call (.Name "tuple" p) [e] [] pos) (pCall fTuple q) :=
  xe_callTy (fun i => by rw [← c.K i]; exact call_tuple_of) cals_tuple hg (fun i => (hm i).trans hn) (by decide +kernel) ha (he := he) (hpl := hpl)
theorem yn_list (c : Ctx X E W k) (hn : mg "list" = none) (hm : ∀ i, (X i).mg "list" = mg "list") (hg : ∀ i, Gl (X i) "list") (ha : XAL X E W [e] q)
    (he : ∀ i, starEach [e] (X i).env = (false, eval e (X i).env) :: starEach [] (X i).env := by intro _; rfl) (hpl : ∀ i, (backTo pos (starEach [] (X i).env)).any (·.1) = false := by intro _; rfl) : XN X E W (.Call (.Name "list" p) [e] [] pos) (pCall fList q) :=
  xn_callTy (fun i => by rw [← c.K i]; exact call_list_of) cals_list hg (fun i => (hm i).trans hn) (by decide +kernel) ha (he := he) (hpl := hpl)
theorem yn_sorted (c : Ctx X E W k) (hn : mg "sorted" = none) (hm : ∀ i, (X i).mg "sorted" = mg "sorted") (hg : ∀ i, Gl (X i) "sorted") (ha : XAL X E W [e] q)
    (he : ∀ i, starEach [e] (X i).env = (false, eval e (X i).env) :: starEach [] (X i).env := by intro _; rfl) (hpl : ∀ i, (backTo pos (starEach [] (X i).env)).any (·.1) = false := by intro _; rfl) : XN X E W (.Call (.Name "sorted" p) [e] [] pos) (pCall fSorted q) :=
  xn_callB (fun i => by rw [← c.K i]; exact cr_srt (c.hu i)) cals_sorted hg (fun i => (hm i).trans hn) (by decide +kernel) ha (he := he) (hpl := hpl)
theorem ye_max2 (c : Ctx X E W k) (hn : mg "max" = none) (hm : ∀ i, (X i).mg "max" = mg "max") (hg : ∀ i, Gl (X i) "max") (ha : XAL X E W [e, e2] q)
    (he : ∀ i, starEach [e, e2] (X i).env = (false, eval e (X i).env) :: starEach [e2] (X i).env := by intro _; rfl) (hpl : ∀ i, (backTo pos (starEach [e2] (X i).env)).any (·.1) = false := by intro _; rfl) : XE X E W (.Call (.Name "max" p) [e, e2] [] pos) (pCall fMax2 q) :=
  xe_callB (fun i => call_max2 (c.calm i)) cals_max2 hg (fun i => (hm i).trans hn) (by decide +kernel) ha (he := he) (hpl := hpl)
theorem ye_min2 (c : Ctx X E W k) (hn : mg "min" = none) (hm : ∀ i, (X i).mg "min" = mg "min") (hg : ∀ i, Gl (X i) "min") (ha : XAL X E W [e, e2] q)
    (he : ∀ i, starEach [e, e2] (X i).env = (false, eval e (X i).env) :: starEach [e2] (X i).env := by intro _; rfl) (hpl : ∀ i, (backTo pos (starEach [e2] (X i).env)).any (·.1) = false := by intro _; rfl) : XE X E W (.Call (.Name "min" p) [e, e2] [] pos) (pCall fMin2 q) :=
  xe_callB (fun i => call_min2 (c.calm i)) cals_min2 hg (fun i => (hm i).trans hn) (by decide +kernel) ha (he := he) (hpl := hpl)
end
end
end DL
end

section
set_option linter.all false
set_option maxRecDepth 100000
set_option maxHeartbeats 4000000
namespace DL
open PySem PySem.Spec L2

/-! ## an instance under way -/
/-- at x stands the instance d, which nobody but slot 0 knows -/
structure Mine (E : Am) (B F H : Hp) (σ : L2.St) (ρ : Ev) (x : Addr) (d : D) (ho : HO) : Prop where
  hx : H x = some ho
  own : OwnR E F d ho
  fx : F x = none
  bx : B x = none
  str : StR E (upd B x ho) F H σ ρ
  p0 : ρ[0]? = some (.pin (.ref x))
def PostI (E : Am) (W : WX) (F0 B : Hp) (Dn : Ends) (x : Addr) : Rs D → Prop
  | .ok d => ∀ F' H', Ext F0 B F' H' → Rep E F' d (.ref x) → Dn.rt .non H' ∧ ∀ σ', Dn.nx σ' H'
  | .err c z => ∀ F' H' σ' cls dd, Ext F0 B F' H' → ErrP E F' H' c z cls dd → W cls dd σ' H'
  | .no => False
abbrev PI0 := Addr → D → Ev → Rs D
def DoesI (E : Am) (W : WX) (t : TS) (p : PI0) : Prop :=
  ∀ (F0 B F H : Hp) (σ : L2.St) (ρ : Ev) (Dn : Ends) (x : Addr) (d : D) (ho : HO), Ext F0 B F H → Mine E B F H σ ρ x d ho → PostI E W F0 B Dn x (p x d ρ) → t Dn σ H
def XSI {I : Type} (X : I → Cx) (E : Am) (W : WX) (st : List Stmt) (p : PI0) : Prop := ∃ t, (∀ i, PSs (X i) st t) ∧ DoesI E W t p
def qKeep (q : PI0) (x : Addr) (d : D) (ρ1 : Ev) : Rs D := match ρ1[0]? with
  | some (EV.pin (V.ref y)) => if y = x then q x d ρ1 else .no
  | _ => .no
def qPut (C f : Str) (v : D) (q : PI0) (x : Addr) (d : D) (ρ : Ev) : Rs D := match d with
  | .ins C' ns ds => if C' = C ∧ f ∉ ns ∧ ns.length < 900 then q x (.ins C' (ns ++ [f]) (ds ++ [v])) ρ else .no
  | _ => .no
/-- an ordinary statement -/
def qStm (p : Ev → Fl) (q : PI0) : PI0 := fun x d ρ => match p ρ with
  | .nx ρ1 => qKeep q x d ρ1
  | .err c z _ => .err c z
  | _ => .no
/-- self.f = e -/
def qFld (C f : Str) (pe : Ev → Rs D) (q : PI0) : PI0 := fun x d ρ => match pe ρ with
  | .ok v => qPut C f v q x d ρ
  | .err c z => .err c z
  | .no => .no
/-- the rest, self a datum -/
def qRest (p : Ev → Fl) : PI0 := fun x d ρ => match p (ρ.set 0 (.dat d)) with
  | .nx _ => .ok d
  | .rt .non => .ok d
  | .err c z _ => .err c z
  | _ => .no
theorem ext_prot {F0 B F H F' H' : Hp} {x : Addr} {ho : HO} (a : Ext F0 B F H) (b : Ext F (upd B x ho) F' H') (hb : B x = none) : Ext F0 B F' H' :=
  ⟨a.f.trans b.f, fun l u e => b.h l u (by rw [upd_ne (ne_of_none e hb)]; exact e), b.fh, fun l hl => by
    have ne : l ≠ x := fun z => hl (by rw [z]; exact hb)
    rw [b.nf l (by rw [upd_ne ne]; exact hl), a.nf l hl]⟩
theorem ext_then {F0 B F H F' H' : Hp} (a : Ext F0 B F H) (b : Ext F B F' H') : Ext F0 B F' H' :=
  ⟨a.f.trans b.f, b.h, b.fh, fun l hl => by rw [b.nf l hl, a.nf l hl]⟩
theorem same_prot {B H : Hp} {x : Addr} {ho : HO} (s : Same B H) (h : H x = some ho) : Same (upd B x ho) H := fun l u e => by
  by_cases q : l = x
  · subst q; rw [upd_same] at e; rw [h]; exact e
  · rw [upd_ne q] at e; exact s l u e
theorem putF_new {f : Str} {v : V} : ∀ {ns : List Str} {vs : List V}, ns.length = vs.length → f ∉ ns → putF f v (ns.zip vs) = (ns ++ [f]).zip (vs ++ [v])
  | [], [], _, _ => rfl
  | [], _ :: _, h, _ => by simp at h
  | _ :: _, [], h, _ => by simp at h
  | n :: ns, w :: vs, h, hf => by
    have ne : ¬ n = f := fun z => hf (by rw [z]; exact List.mem_cons_self)
    show (if n = f then (n, v) :: ns.zip vs else (n, w) :: putF f v (ns.zip vs)) = _
    rw [if_neg ne, putF_new (by simpa using h) fun z => hf (List.mem_cons_of_mem _ z)]
    rfl
theorem Mine.ext {E : Am} {B F H F' H' : Hp} {σ : L2.St} {ρ : Ev} {x : Addr} {d : D} {ho : HO} (m : Mine E B F H σ ρ x d ho) (e : Ext F H F' H') : Mine E B F' H' σ ρ x d ho :=
  ⟨e.h _ _ m.hx, m.own.mono e.f, by rw [e.nf x (by rw [m.hx]; simp)]; exact m.fx, m.bx, m.str.mono e, m.p0⟩
section
variable {I : Type} {X : I → Cx} {E : Am} {W : WX} {k : Nat}
theorem xi_stm {s : Stmt} {rest : List Stmt} {p : Ev → Fl} {q : PI0} (h : XS X E W s p) (h' : XSI X E W rest q) : XSI X E W (s :: rest) (qStm p q) := by
  obtain ⟨t, h1, h2⟩ := h
  obtain ⟨u, g1, g2⟩ := h'
  refine ⟨_, fun i => pss_cons (h1 i) (g1 i), fun F0 B F H σ ρ Dn x d ho e m post => ?_⟩
  refine h2 F (upd B x ho) F H σ ρ _ ⟨Same.refl F, same_prot e.h m.hx, e.fh, fun _ _ => rfl⟩ m.str ?_
  unfold qStm at post
  cases ep : p ρ with
  | nx ρ1 =>
    rw [ep] at post
    intro F' H' σ' x' r'
    have post : PostI E W F0 B Dn x (qKeep q x d ρ1) := post
    unfold qKeep at post
    split at post
    · rename_i y e0
      by_cases c : y = x
      · subst c
        rw [if_pos rfl] at post
        exact g2 F0 B F' H' σ' ρ1 Dn y d ho (ext_prot e x' m.bx) ⟨x'.h _ _ upd_same, m.own.mono x'.f, by rw [x'.nf y (by rw [upd_same]; simp)]; exact m.fx, m.bx, r', e0⟩ post
      · rw [if_neg c] at post; exact post.elim
    · exact post.elim
  | err c z ρ1 =>
    rw [ep] at post
    exact fun F' H' σ' cls dd x' _ g => post F' H' σ' cls dd (ext_prot e x' m.bx) g
  | rt d => rw [ep] at post; exact post.elim
  | bk ρ => rw [ep] at post; exact post.elim
  | ct ρ => rw [ep] at post; exact post.elim
  | no => rw [ep] at post; exact post.elim
theorem xi_fld {C : Str} {fs : List Str} {o e : Expr} {f : Str} {rest : List Stmt} {pos pos' : Pos} {pe : Ev → Rs D} {q : PI0} (c : Ctx X E W k) (hc : ClsOk E C fs) (hf : f ∈ fs) (ho : ∀ j, PE (X j) o (tVar 0)) (he : XE X E W e pe) (h' : XSI X E W rest q)
    (hs : ∀ i, swapsWith e (some (.Attribute o f pos')) pos.line (X i).env = pure false := by intro _; rfl) : XSI X E W (.Assign [.Attribute o f pos'] e pos :: rest) (qFld C f pe q) := by
  obtain ⟨t, h1, h2⟩ := he
  obtain ⟨u, g1, g2⟩ := h'
  refine ⟨tSeq (sFld E.K (tVar 0) t f) u, fun i => pss_cons (by rw [← c.K i]; exact ps_fld (ho i) (h1 i) (hs i)) (g1 i), fun F0 B F H σ ρ Dn x d hob ex m post => ?_⟩
  show t σ H _
  refine h2 (upd B x hob) F H σ ρ _ ex.fh (same_prot ex.h m.hx) m.str ?_
  unfold qFld at post
  cases ep : pe ρ with
  | no => rw [ep] at post; exact post.elim
  | err cc z => rw [ep] at post; exact fun F1 H1 cls dd x1 g => post F1 H1 σ cls dd (ex.trans x1) g
  | ok v =>
    rw [ep] at post
    intro F1 H1 vv x1 gv
    have pst : PostI E W F0 B Dn x (qPut C f v q x d ρ) := post
    clear post
    have m1 := m.ext x1
    have e1 := ex.trans x1
    clear m
    unfold qPut at pst
    split at pst
    case h_2 => exact pst.elim
    rename_i C' ns ds
    by_cases cc : C' = C ∧ f ∉ ns ∧ ns.length < 900
    · rw [if_pos cc] at pst
      obtain ⟨rfl, cf, cl⟩ := cc
      obtain ⟨dx, vs, rfl, q2, q3⟩ := m1.own
      have hl : ns.length = vs.length := by rw [q2]; exact q3.len
      refine ⟨.ref x, m1.str.pin 0 _ m1.p0, x, E.cl C', dx, ns.zip vs, rfl, m1.hx, hc.cl, hc.no f hf, by rw [List.length_zip]; omega, ?_⟩
      rw [putF_new hl cf]
      refine g2 F0 B F1 _ σ ρ Dn x (.ins C' (ns ++ [f]) (ds ++ [v])) (.ins (E.cl C') dx ((ns ++ [f]).zip (vs ++ [vv]))) (e1.wr m1.fx m1.bx) ⟨upd_same, ⟨dx, _, rfl, by simp [q2], q3.append (.cons gv rfl)⟩, m1.fx, m1.bx, ?_, m1.p0⟩ pst
      have s := m1.str
      refine ⟨s.len, s.dat, fun i d' hi => ?_, s.apart, s.pin⟩
      obtain ⟨l, ho', w1, w2, w3, w4, w5⟩ := s.own i d' hi
      have ne : l ≠ x := fun z => by rw [z, upd_same] at w4; cases w4
      rw [upd_ne ne] at w4
      exact ⟨l, ho', w1, by rw [upd_ne ne]; exact w2, w3, by rw [upd_ne ne]; exact w4, w5⟩
    · rw [if_neg cc] at pst; exact pst.elim
theorem set_self {α : Type} {l : List α} {i : Nat} {a : α} (h : l[i]? = some a) : l.set i a = l := by
  apply List.ext_getElem?
  intro j
  by_cases q : i = j
  · subst q
    rw [List.getElem?_set_self (List.getElem?_eq_some_iff.mp h).1, h]
  · rw [List.getElem?_set_ne q]
theorem xi_rest {rest : List Stmt} {p : Ev → Fl} (h : XSs X E W rest p) : XSI X E W rest (qRest p) := by
  obtain ⟨t, h1, h2⟩ := h
  refine ⟨t, h1, fun F0 B F H σ ρ Dn x d ho e m post => ?_⟩
  have sf : Same F (upd F x ho) := same_upd_self m.fx
  have e2 := e.frz m.hx m.fx m.bx
  have s := m.str
  have r1 : StR E B (upd F x ho) H σ ρ := by
    refine ⟨s.len, fun i d' hi => ?_, fun i d' hi => ?_, s.apart, s.pin⟩
    · obtain ⟨v, w1, w2⟩ := s.dat i d' hi
      exact ⟨v, w1, Rep.mono sf _ _ w2⟩
    · obtain ⟨l, ho', w1, w2, w3, w4, w5⟩ := s.own i d' hi
      have ne : l ≠ x := fun z => by rw [z, upd_same] at w4; cases w4
      rw [upd_ne ne] at w4
      exact ⟨l, ho', w1, w2, by rw [upd_ne ne]; exact w3, w4, w5.mono sf⟩
  have rep : Rep E (upd F x ho) d (.ref x) := (m.own.mono sf).rep upd_same
  have r2 := r1.setD (i := 0) rep
  rw [set_self (s.pin 0 _ m.p0)] at r2
  refine h2 (upd F x ho) B (upd F x ho) H σ _ Dn ⟨Same.refl _, e2.h, e2.fh, fun _ _ => rfl⟩ r2 ?_
  unfold qRest at post
  cases ep : p (ρ.set 0 (.dat d)) with
  | nx ρ1 => rw [ep] at post; exact fun F' H' σ' x' _ => (post F' H' (ext_then e2 x') (Rep.mono x'.f _ _ rep)).2 σ'
  | rt d' =>
    rw [ep] at post
    intro F' H' v x' g
    cases d' <;> first | exact post.elim | skip
    rw [show v = V.non from g]
    exact (post F' H' (ext_then e2 x') (Rep.mono x'.f _ _ rep)).1
  | err c z ρ1 => rw [ep] at post; exact fun F' H' σ' cls dd x' _ g => post F' H' σ' cls dd (ext_then e2 x') g
  | bk ρ1 => rw [ep] at post; exact post.elim
  | ct ρ1 => rw [ep] at post; exact post.elim
  | no => rw [ep] at post; exact post.elim
end
/-! ## __init__ and the call of a class -/
def spI (E : Am) (n : Nat) (C : Str) (f : Addr → List D → Rs D) : Sp := fun vs H Q Ex => ∃ x dx us H1 F ds, vs = .ref x :: us ∧ Same F H1 ∧ H1 x = none ∧ H1 dx = none ∧ dx ≠ x ∧ H = upd (upd H1 dx (.own x)) x (.ins (E.cl C) dx []) ∧ RepL E F ds us ∧ ds.length + 1 = n ∧
  PostI E (WF Ex) F H1 { nx := fun _ H' => Q .non H', rt := Q } x (f x ds)
theorem spI_len {E : Am} {n : Nat} {C : Str} {f : Addr → List D → Rs D} {vs : List V} {H : Hp} {Q : VK} {Ex : XK} (h : spI E n C f vs H Q Ex) : vs.length = n := by
  obtain ⟨x, dx, us, H1, F, ds, rfl, _, _, _, _, _, r, hl, _⟩ := h
  rw [List.length_cons, ← r.len]; exact hl
def runI (m : Nat) (C : Str) (p : PI0) : Addr → List D → Rs D := fun x ds => p x (.ins C [] []) (.pin (.ref x) :: (ds.map .dat ++ List.replicate (m - (ds.length + 1)) .unb))
theorem StR.cons_pin {E : Am} {B F H : Hp} {σ : L2.St} {ρ : Ev} (s : StR E B F H σ ρ) (v : V) : StR E B F H (some v :: σ) (.pin v :: ρ) := by
  refine ⟨by simp [s.len], fun i d hi => ?_, fun i d hi => ?_, fun i j d d' l hij hi hj hl => ?_, fun i d hi => ?_⟩
  · cases i with
    | zero => cases hi
    | succ i => exact s.dat i d hi
  · cases i with
    | zero => cases hi
    | succ i => exact s.own i d hi
  · cases i with
    | zero => cases hi
    | succ i =>
      cases j with
      | zero => cases hj
      | succ j => exact s.apart i j d d' l (fun z => hij (by rw [z])) hi hj hl
  · cases i with
    | zero => cases hi; rfl
    | succ i => exact s.pin i d hi
theorem fn_okI {P : Program} {w : World} {E : Am} {mg : Str → Option Value} {base : Heap} {x qual C : Str} {params : Arguments} {body : List Stmt} {sc : Scope} {dvs : List V} {kws : List (Str × V)} {f : Addr} {fd : FuncData} {n0 : Str} {N ps : List Str} {k : Nat} {p : PI0} (F : FunD E.K x qual params body sc dvs kws f fd) (S : FnScope (n0 :: N) ps sc)
    (hb : ∀ (cdv : Value) (A : Around) (outer : List Env) (s : Shared) (H : Hp) (Ex : XK), Room k (A.deeper (PyProof.Rows.envOfC qual sc s.heap.objs.size f cdv)) → XSI (Bd P w E mg base (n0 :: N) qual sc f cdv A outer s H Ex) E (WF Ex) body p) :
    FnOk P w E.K mg base (L2.CX P w) (k + 1) f fd ps (spI E ps.length C (runI (n0 :: N).length C p)) := by
  refine F.ok S (fun vs H Q Ex h => spI_len h) (fun cdv A outer s H vs Q Ex hr h => ?_)
  obtain ⟨t, t1, t2⟩ := hb cdv A outer s H Ex hr
  refine ⟨t, t1 (), ?_⟩
  obtain ⟨y, dx, us, H1, F0, ds, rfl, sm, hy, hdx, ne, rfl, r, hl, post⟩ := h
  have s1 : Same H1 (upd H1 dx (.own y)) := same_upd_self hdx
  have hy1 : (upd H1 dx (.own y)) y = none := by rw [upd_ne (Ne.symm ne)]; exact hy
  have s2 : Same H1 (upd (upd H1 dx (.own y)) y (.ins (E.cl C) dx [])) := s1.trans (same_upd_self hy1)
  have e0 : L2.start (n0 :: N) (.ref y :: us) = some (.ref y) :: L2.start N us := by
    unfold L2.start; simp
  have hst := (start_str (E := E) (B := upd H1 y (.ins (E.cl C) dx [])) (H := upd (upd H1 dx (.own y)) y (.ins (E.cl C) dx [])) (N := N) r).cons_pin (.ref y)
  rw [e0]
  refine t2 F0 H1 F0 _ _ _ _ y (.ins C [] []) (.ins (E.cl C) dx []) ⟨Same.refl _, s2, sm.trans s2, fun _ _ => rfl⟩ ⟨upd_same, ⟨dx, [], rfl, rfl, rfl⟩, sm.free hy, hy, hst, rfl⟩ ?_
  unfold runI at post
  rw [List.length_cons, Nat.add_sub_add_right] at post
  exact post
/-- whatever the address -/
noncomputable def anyX (f : Addr → List D → Rs D) : List D → Rs D := fun ds => by
  classical exact if h : ∃ r, ∀ x, f x ds = r then h.choose else .no
theorem anyX_eq {f : Addr → List D → Rs D} {ds : List D} {r : Rs D} (h : ∀ x, f x ds = r) : anyX f ds = r := by
  have e : ∃ r, ∀ x, f x ds = r := ⟨r, h⟩
  unfold anyX
  rw [dif_pos e]
  have := e.choose_spec 0
  rw [← this, h]
section
variable {X : Cx} {k : Nat} {f C : Addr} {fd : FuncData} {ps : List Str} {sp : Sp} {Ex : L2.St → XK} {CX : CXT} {x : Str} {p pos : Pos} {e : Expr} {es : List Expr} {t : TA} {ds : List Value} {dvs : List V}
theorem run_makeSD {pins : List (Addr × Obj)} {σ : L2.St} {H : Hp} {s : Shared} {Q : VK} {us : List Value} {vs : List V} (M : Mk X.K C f) (F : FnOk X.prog X.w X.K X.mg X.base CX k f fd ps sp) (hr : Room (k + 1) X.A) (hb : Binds X.K fd ps ds) (hd : Vals dvs ds)
    (hx : PassesAt CX X σ (Ex σ)) (I : Inv X pins σ H s) (r : Vals vs us)
    (h : ∀ x dx, H x = none → H dx = none → dx ≠ x → sp (.ref x :: (vs ++ dvs)) (upd (upd H dx (.own x)) x (.ins C dx [])) (fun v H2 => v = .non ∧ Q (.ref x) H2) (Ex σ)) :
    wpAny (model X.prog X.w) X.A (call (.ref C) us) (EP X pins σ Q) X.xe s := by
  have hq := h (s.heap.objs.size + 1) s.heap.objs.size (I.hok.fresh (Nat.le_succ _)) (I.hok.fresh (Nat.le_refl _)) (Nat.ne_of_lt (Nat.lt_succ_self _))
  have I2 := Inv.made (C := C) I
  have r2 : Vals (V.ref (s.heap.objs.size + 1) :: (vs ++ dvs)) (Value.ref (s.heap.objs.size + 1) :: (us ++ ds)) := .cons rfl (r.append hd)
  have hl : (Value.ref (s.heap.objs.size + 1) :: us ++ ds).length = ps.length := by
    have e := r2.length
    rw [F.len _ _ _ _ hq] at e
    exact e.symm
  refine wpAny_call (make_map (f := f) I.kIn M.makes M.init (beq_iff_eq.mp M.fn) (codeAny_mono (F.run _ X.stack _ _ ⟨Value.ref (s.heap.objs.size + 1) :: us, []⟩ (Value.ref (s.heap.objs.size + 1) :: (us ++ ds)) _ _ (Ex σ) (hr.make C us [])
    (I2.env0.make C us []) (hb _ (Value.ref (s.heap.objs.size + 1) :: us) I2.kIn hl) r2 hq) fun r s' hq' => ?_))
  cases r with
  | error e => exact hx pins _ _ e s' I2 hq'
  | ok fl =>
    cases fl with
    | ret u =>
      obtain ⟨v, H', I3, rv, ev, q3⟩ := I2.after hq'
      subst ev
      exact ⟨rv, ⟨V.ref (s.heap.objs.size + 1), H', I3, rfl, q3⟩⟩
    | next => exact False.elim hq'
    | brk => exact False.elim hq'
    | cont => exact False.elim hq'
def tMakeSD (C : Addr) (sp : Sp) (dvs : List V) (Ex : L2.St → XK) (t : TA) : TE := fun σ H Q => t σ H fun vs H1 => ∀ x dx, H1 x = none → H1 dx = none → dx ≠ x →
  sp (.ref x :: (vs ++ dvs)) (upd (upd H1 dx (.own x)) x (.ins C dx [])) (fun v H2 => v = .non ∧ Q (.ref x) H2) (Ex σ)
theorem pe_makeSD (M : Mk X.K C f) (F : FnOk X.prog X.w X.K X.mg X.base CX k f fd ps sp) (hr : Room (k + 1) X.A) (hg : Gl X x) (hm : X.mg x = some (.ref C)) (hb : Binds X.K fd ps ds) (hd : Vals dvs ds) (hx : ∀ σ, PassesAt CX X σ (Ex σ))
    (ha : PA X (e :: es) t) (hdb : (x == ("__debug__" : Str)) = false := by decide) (he : starEach (e :: es) X.env = (false, eval e X.env) :: starEach es X.env := by rfl) (hpl : (backTo pos (starEach es X.env)).any (·.1) = false := by rfl) :
    PE X (.Call (.Name x p) (e :: es) [] pos) (tMakeSD C sp dvs Ex t) := by
  refine ⟨fun pins s σ H Q I h => ?_⟩
  refine wpAny_Call_Name_kw (ld_glob I hg hm ?_ hdb)
  refine PySem.W.callWith_K (h₀ := X.base) I.ok.mod.kin M.kp (thn (ha.run pos pins s σ H _ I h) fun us s1 ⟨vs, H1, I1, r, q⟩ => ⟨I1.kIn, ?_⟩) he hpl
  exact run_makeSD M F hr hb hd (hx σ) I1 r q
end
section
variable {I : Type} {X : I → Cx} {E : Am} {W : WX} {k : Nat}
theorem evals_make {n : Nat} {C : Str} {f : Addr → List D → Rs D} {dds : List D} {dvs : List V} {t : TA} {q : Ev → Rs (List D)} (hd : ∀ F, RepL E F dds dvs) (h : Evals E W (GA E) t q) : Evals E W (GS E) (tMakeSD (E.cl C) (spI E (n + 1) C f) dvs (WE W) t) (pFn (arity n (anyX f)) dds q) := by
  intro B F H σ ρ Q s sb r post
  show t σ H _
  refine Evals.seq h s sb r post fun F1 H1 ds vs e1 x1 sb1 r1 gg post1 => ?_
  intro x dx hx hdx ne
  unfold arity at post1
  by_cases c : (ds ++ dds).length = n
  · rw [if_pos c] at post1
    refine ⟨x, dx, vs ++ dvs, H1, F1, ds ++ dds, rfl, x1.fh, hx, hdx, ne, rfl, gg.append (hd F1), by rw [c], ?_⟩
    by_cases ex : ∃ r, ∀ x, f x (ds ++ dds) = r
    · have e2 := ex.choose_spec x
      unfold anyX at post1
      rw [dif_pos ex, ← e2] at post1
      cases er : f x (ds ++ dds) with
      | ok d => rw [er] at post1; exact fun F' H' xx rr => ⟨⟨rfl, post1 F' H' _ xx rr⟩, fun _ => ⟨rfl, post1 F' H' _ xx rr⟩⟩
      | err c z => rw [er] at post1; exact fun F' H' _ cls dd xx ee => post1 F' H' cls dd xx ee
      | no => rw [er] at post1; exact post1.elim
    · unfold anyX at post1
      rw [dif_neg ex] at post1
      exact post1.elim
  · rw [if_neg c] at post1; exact post1.elim
/-- C(e, ..) -/
theorem xe_make {j n : Nat} {f : Addr} {fd : FuncData} {ps : List Str} {C : Str} {fn : Addr → List D → Rs D} {dds : List D} {dvs : List V} {ds : List Value} {p pos : Pos} {e : Expr} {es : List Expr} {q : Ev → Rs (List D)} (c : Ctx X E W k) (M : Mk E.K (E.cl C) f)
    (G : ∀ i, FnOk (X i).prog (X i).w (X i).K (X i).mg (X i).base (L2.CX (X i).prog (X i).w) j f fd ps (spI E (n + 1) C fn)) (hj : j + 1 ≤ k) (hg : ∀ i, Gl (X i) C) (hm : ∀ i, (X i).mg C = some (.ref (E.cl C))) (hb : Binds E.K fd ps ds) (hd : Vals dvs ds) (hD : ∀ F, RepL E F dds dvs) (ha : XA X E W (e :: es) q)
    (hdb : (C == ("__debug__" : Str)) = false := by decide) (he : ∀ i, starEach (e :: es) (X i).env = (false, eval e (X i).env) :: starEach es (X i).env := by intro _; rfl) (hpl : ∀ i, (backTo pos (starEach es (X i).env)).any (·.1) = false := by intro _; rfl) : XE X E W (.Call (.Name C p) (e :: es) [] pos) (pFn (arity n (anyX fn)) dds q) := by
  obtain ⟨t, a1, a2⟩ := ha
  exact ⟨_, fun i => pe_makeSD (by rw [c.K i]; exact M) (G i) ((c.room i).mono hj) (hg i) (hm i) (by rw [c.K i]; exact hb) hd (fun σ => passAt (c.tk i) σ) (a1 i) hdb (he i) (hpl i), evals_make hD a2⟩
end
end DL
end

section
set_option linter.all false
set_option maxRecDepth 100000
set_option maxHeartbeats 4000000
namespace DL
open PySem PySem.Spec L2
/-! ## the facts of a class -/
theorem no_nil {E : Am} {C : Str} : ∀ g ∈ ([] : List Str), NoAttr E.K (E.cl C) g := fun g h => by cases h
theorem no_cons {E : Am} {C f : Str} {fs : List Str} (h : NoAttr E.K (E.cl C) f) (t : ∀ g ∈ fs, NoAttr E.K (E.cl C) g) : ∀ g ∈ f :: fs, NoAttr E.K (E.cl C) g := fun g hg => by
  rcases List.mem_cons.mp hg with z | z
  · rw [z]; exact h
  · exact t g z
theorem binds_nil {K : PySem.W.Frag} {fd : FuncData} {ps : List Str} (h : ∃ ds, Vals ([] : List V) ds ∧ Binds K fd ps ds) : Binds K fd ps [] := by
  obtain ⟨ds, v, b⟩ := h
  cases v
  exact b
/-- a default that is an object of the written part -/
theorem dfl_rep {E : Am} {d : D} {a : Addr} (h : repB E.K d (.ref a) = true) (F : Hp) : Rep E F d (.ref a) := by
  obtain ⟨v, r1, r2⟩ := repB_ok d _ h
  cases v <;> first | (obtain ⟨t, z⟩ := r1; cases z; done) | (cases r1; done) | skip
  rename_i b
  have e : Value.ref a = Value.ref b := r1
  cases e
  exact r2 F
def dflX (f : Str × Option Str) (i : Nat) (d : D) (K : PySem.W.Frag) : Bool := repB K d (.ref (He.dflAt f i K))
/-- a class that makes instances: its __init__, of level k -/
structure InX (P : Program) (w : World) (E : Am) (mg : Str → Option Value) (base : Heap) (k : Nat) (C : Str) (n : Nat) (dds : List D) (fn : Addr → List D → Rs D) : Prop where
  ex : ∃ (f : Addr) (fd : FuncData) (ps : List Str) (dvs : List V) (ds : List Value), FnOk P w E.K mg base (L2.CX P w) k f fd ps (spI E (n + 1) C fn) ∧ Mk E.K (E.cl C) f ∧ Binds E.K fd ps [] ∧ Vals dvs ds ∧ (∀ F, RepL E F dds dvs) ∧ Binds E.K fd ps ds
theorem inX_mk {P : Program} {w : World} {E : Am} {mg : Str → Option Value} {base : Heap} {x qual C : Str} {params : Arguments} {body : List Stmt} {sc : Scope} {dvs dvs2 : List V} {kws : List (Str × V)} {f : Addr} {fd : FuncData} {n0 : Str} {N ps : List Str} {k m n : Nat} {p : PI0} {fn : Addr → List D → Rs D} {dds : List D} (F : FunD E.K x qual params body sc dvs kws f fd) (S : FnScope (n0 :: N) ps sc) (hm : (n0 :: N).length = m) (hn : ps.length = n + 1) (hfn : fn = runI m C p) (M : Mk E.K (E.cl C) f)
    (B : Binds E.K fd ps []) (hD : ∀ F, RepL E F dds dvs2) (B2 : ∃ ds, Vals dvs2 ds ∧ Binds E.K fd ps ds)
    (hb : ∀ (cdv : Value) (A : Around) (outer : List Env) (s : Shared) (H : Hp) (Ex : XK), Room k (A.deeper (PyProof.Rows.envOfC qual sc s.heap.objs.size f cdv)) → XSI (Bd P w E mg base (n0 :: N) qual sc f cdv A outer s H Ex) E (WF Ex) body p) : InX P w E mg base (k + 1) C n dds fn := by
  subst hm hfn
  obtain ⟨ds, v, b⟩ := B2
  have z := fn_okI (C := C) F S hb
  rw [hn] at z
  exact ⟨f, fd, ps, dvs2, ds, z, M, B, v, hD, b⟩
/-- what raising an own class over ValueError wants -/
abbrev ExcX (E : Am) (C : Str) : Prop := PySem.W.excIn E.K (E.cl C) He.veBase "ValueError.__new__" = true ∧ PySem.W.keepIn E.K (.ref (E.cl C)) = true ∧ PySem.W.subIn E.K (.ref (E.cl C)) (.type "BaseException") = some true ∧ PySem.W.typeIn E.K (.ref (E.cl C)) = some (.type "type")
theorem zs_raise {I : Type} {X : I → Cx} {E : Am} {W : WX} {k : Nat} {x m : Str} {j : Nat} {p1 p2 p3 pos : Pos} (c : Ctx X E W k) (q : ExcX E x) (gC : ∀ i, (X i).mg x = some (.ref (E.cl x))) (hg : ∀ i, Gl (X i) x) (hdb : (x == ("__debug__" : Str)) = false := by decide) :
    XS X E W (.Raise (some (.Call (.Name x p1) [.Constant (.str m) j p2] [] p3)) none pos) (fun ρ => .err x none ρ) :=
  xs_raise c PySem.F.excBase_ValueError rfl q.1 gC q.2.1 (fun i => raises_own (by rw [c.K i]; exact q.2.2.1) (by rw [c.K i]; exact q.2.2.2)) hg hdb
end DL
end

section
set_option linter.all false
set_option maxRecDepth 100000
set_option maxHeartbeats 4000000
/-! enumerate(t), t a tuple -/
namespace DL
open PySem PySem.Spec PyProof.Rows L2
set_option maxHeartbeats 4000000 in
theorem meets_enum1 {v : Value} {o : Obj} {H : Heap → Prop} (B : Begins v o H) :
    Meets (Builtin.«enumerate.__new__» ⟨[.type "enumerate", v], []⟩) (fun _ R s => H s.heap ∧
      R (.ok (.ret (.ref (s.heap.push o).objs.size))) { s with heap := (s.heap.push o).push { cls := .type "enumerate", data := .fields #[.none, .bool false, .ref s.heap.objs.size, rawInt 0, .none, .none] } }) :=
  .of_wp fun prog w A R s h => by
    obtain ⟨hp, g, d, tk, os⟩ := s; obtain ⟨h1, h⟩ := h
    have hsub := sub_enumerate
    have q1 : ∀ {A' : Around} {E : Value → Shared → Prop} {Q : Value → Shared → Prop}, Q (.ref hp.objs.size) ⟨hp.push o, g, d, tk, os⟩ → wpAny (model prog w) A' (pyIter v) Q E ⟨hp, g, d, tk, os⟩ :=
      fun q => B.iter prog w _ _ ⟨hp, g, d, tk, os⟩ _ h1 q
    wp_walk using q1
    refine wpAny_stack_any fun st => wpAny_pure ?_
    split
    · rename_i c _ _ _ _ _
      cases (c == Value.type "enumerate")
      · wp_walk using q1
        exact ⟨_, rfl, h⟩
      · wp_walk using q1
        exact ⟨_, rfl, h⟩
    · wp_walk using q1
      exact ⟨_, rfl, h⟩
theorem enum1_begins {prog : Program} {w : World} {A : Around} {E : Value → Shared → Prop} {s : Shared} {v : Value} {o : Obj} {H : Heap → Prop} {Q : Value → Shared → Prop} (B : Begins v o H) (h1 : H s.heap)
    (h : ∀ h', IsEnum h' (s.heap.objs.size + 1) s.heap.objs.size 0 .none → h'.get? s.heap.objs.size = some o → h'.objs.size = s.heap.objs.size + 2 →
      (∀ b o, s.heap.get? b = some o → h'.get? b = some o) → Q (.ref (s.heap.objs.size + 1)) { s with heap := h' }) :
    wpAny (model prog w) A (call (.type "enumerate") [v]) Q E s := by
  refine callType_new F.called_enumerate (by decide) (F.typeCall_enumerate_1 _) (F.newCall_enumerate_1 _) (fun obj => F.args_object_init_2 obj _) F.entry_enumerate_new
    (meets_enum1 B) ⟨h1, ?_⟩
  have hz : (s.heap.push o).objs.size = s.heap.objs.size + 1 := Heap.size_push ..
  show _ ∧ _
  rw [hz]
  have he : IsEnum ((s.heap.push o).push { cls := .type "enumerate", data := .fields #[.none, .bool false, .ref s.heap.objs.size, rawInt 0, .none, .none] }) (s.heap.objs.size + 1) s.heap.objs.size 0 .none := by
    have := Heap.get?_push_size (s.heap.push o) (o := { cls := .type "enumerate", data := .fields #[.none, .bool false, .ref s.heap.objs.size, rawInt 0, .none, .none] }) rfl
    rw [hz] at this; exact this
  refine ⟨⟨_, he, rfl⟩, h _ he (Heap.get?_push_of_some _ (Heap.get?_push_size _ B.free)) (by rw [Heap.size_push, hz]) fun b o x => Heap.get?_push_of_some _ (Heap.get?_push_of_some _ x)⟩
/-- the tuple at a, each item in a new pair -/
def IteT (K : PySem.W.Frag) (a : Addr) : It :=
  ⟨fun i H => ∃ (xs : List V) (x : V), SqT K H a xs ∧ xs[i]? = some x, fun i H v H' => ∃ T x, v = .ref T ∧ H T = none ∧ H' = upd H T (.tup [.int (i : Nat), x]) ∧ ∀ xs, SqT K H a xs → xs[i]? = some x, fun i H => ∃ xs : List V, SqT K H a xs ∧ xs.length ≤ i⟩
theorem tuple_inj {X : Cx} {pins : List (Addr × Obj)} {σ : L2.St} {H : Hp} {s : Shared} {a : Addr} {xs ys : List V} (I : Inv X pins σ H s) (h : SqT X.K H a xs) (h2 : SqT X.K H a ys) : xs = ys := I.tuple_inj h h2
theorem turn_enumT {P : Program} {w : World} {K : PySem.W.Frag} {elts : List Expr} {kk : Nat} {tpos : Pos} (a e it : Addr) :
    Turn P w K (.Tuple elts kk tpos) (IteT K a) [e, it] e (fun i h => (∃ old, IsEnum h e it ((i : Nat) : Int) old) ∧ h.IsTupleIter it a i ∧ e ≠ it) where
  mem := by simp
  obj := fun i h st b hb => by
    obtain ⟨⟨old, he⟩, ⟨o, ho, hc, hd⟩, _⟩ := st
    have e' : b = e ∨ b = it := by simpa using hb
    rcases e' with z | z
    · rw [z]; exact ⟨_, he, fun v q => nomatch q⟩
    · rw [z]; exact ⟨o, ho, fun v q => by rw [hd] at q; cases q⟩
  keep := fun i h h' st k => let ⟨⟨old, he⟩, hi, hne⟩ := st; ⟨⟨old, k e (by simp) _ he⟩, hi.at fun o q => k it (by simp) o q, hne⟩
  item := by
    intro X hP hw hK hc i pins s σ H E I hf st hg
    subst hP hw hK
    obtain ⟨⟨old, he⟩, hit, hne⟩ := st
    obtain ⟨xs, x, hq, hx⟩ := hg
    obtain ⟨its, rv, p, hz⟩ := I.tuple hq
    obtain ⟨u, hu, ru⟩ := rv.get hx
    have hel : e < s.heap.objs.size := Heap.lt_size he
    have hil : it < s.heap.objs.size := by obtain ⟨_, q, _⟩ := hit; exact Heap.lt_size q
    have hat : a ≠ it := fun z => by
      subst z
      obtain ⟨o1, q1, q2, _⟩ := hit
      obtain ⟨o2, q3, q4, _⟩ := p
      rw [q1] at q3; cases q3
      rw [q2] at q4
      exact absurd q4 (by decide)
    have hae : e ∉ [it, a] := fun hm => by
      rcases List.mem_cons.mp hm with z | z
      · exact hne z
      · have z : e = a := by simpa using z
        subst z
        obtain ⟨o2, q3, q4, _⟩ := p
        rw [he] at q3; cases q3
        exact absurd q4 (show ¬ Value.type "enumerate" = Value.type "tuple" by decide)
    have hlt : i < its.toArray.size := by
      have := (List.getElem?_eq_some_iff.mp hu).1
      simpa using this
    refine wpAny_pyNext_enum_itemC (Draws.tuple (A := X.A.in1) (I.ok.hd hc) it a hat its.toArray) he ⟨hit, p⟩ hlt hne hae fun y h' tk hy ho hst hT hsz hk => ?_
    have ey : y = u := by
      have e1 : its.toArray[i]? = some y := hy
      rw [List.getElem?_toArray, hu] at e1
      exact (Option.some.inj e1).symm
    subst ey
    refine ⟨_, rfl, wpAny_letOwnedTupleGo_enum (s := { s with heap := h', toks := tk + 1 }) ho fun h'' he' sb => ?_⟩
    have hT2 : h''.get? s.heap.objs.size = some { cls := .type "tuple", data := .seq #[.int i tk, y] } := (sb.2 _ (Nat.ne_of_gt hel)).trans hT
    have new : ObjOk X.prog X.w (upd H s.heap.objs.size (.tup [.int (i : Nat), x])) h'' s.heap.objs.size (.tup [.int (i : Nat), x]) :=
      ⟨by show 2 ≤ sizeLine; decide, [.int i tk, y], .cons ⟨_, rfl⟩ (.cons ru .nil), ⟨_, hT2, rfl, _, rfl⟩⟩
    have I1 : Inv X pins σ (upd H s.heap.objs.size (.tup [.int (i : Nat), x])) { s with heap := h'', toks := tk + 1 } :=
      I.turnedNew (ch := [e, it]) (fun b ob hb q => (sb.2 b (fun z => hb (by simp [z]))).trans (hk b ob (fun z => hb (by simp [z])) (fun z => hb (by simp [z])) q)) hf (Nat.le_refl _) new
    refine ⟨.ref s.heap.objs.size, _, I1, rfl, ⟨_, x, rfl, I.hok.fresh (Nat.le_refl _), rfl, fun ys hy => by rw [I.tuple_inj hy hq]; exact hx⟩, ⟨⟨y, ?_⟩, hst.1.at fun o q => (sb.2 it (Ne.symm hne)).trans q, hne⟩, fun b hb => ?_⟩
    · have e1 : ((i + 1 : Nat) : Int) = (i : Int) + 1 := by omega
      rw [e1]; exact he'
    · have hb' : b < s.heap.objs.size := by
        have e' : b = e ∨ b = it := by simpa using hb
        rcases e' with z | z
        · rw [z]; exact hel
        · rw [z]; exact hil
      rw [upd_ne (Nat.ne_of_lt hb')]
      exact (hf b hb).1
  done := by
    intro X hP hw hK hc i pins s σ H E I hf st hg
    subst hP hw hK
    obtain ⟨⟨old, he⟩, hit, hne⟩ := st
    obtain ⟨xs, hq, hx⟩ := hg
    obtain ⟨its, rv, p, hz⟩ := I.tuple hq
    obtain ⟨f0, f1, f2, f3, f4, f5⟩ := hf it (by simp)
    have hl := rv.length
    have hat : a ≠ it := fun z => by
      subst z
      obtain ⟨o1, q1, q2, _⟩ := hit
      obtain ⟨o2, q3, q4, _⟩ := p
      rw [q1] at q3; cases q3
      rw [q2] at q4
      exact absurd q4 (by decide)
    have D : Draws X.prog X.w X.A.in1 it [it, a] 0 (fun _ _ => False) (fun _ h => h.IsTupleIter it a i ∧ h.IsTuple a its.toArray) :=
      ⟨fun _ _ st => let ⟨o, ho, _⟩ := st.1; ⟨o, ho⟩, fun _ _ _ st hk => ⟨st.1.at fun o e => hk it (by simp) o e, st.2.at fun o e => hk a (by simp) o e⟩, fun j s Q E hj st => absurd hj (Nat.not_lt_zero _),
        fun s Q E st hE => wpAny_nextOf_tuple_end (A := X.A.in1) (I.ok.hd hc) st.1 st.2 (by simp; omega) hE⟩
    exact wpAny_pyNext_enum_endD D he ⟨hit, p⟩ fun h' eb => ⟨rfl, I.turned (t' := s.toks) (fun b o hb q => eb b o hb q) f0 f1 f3 f4 f5⟩
  self := fun A i s Q E st h => let ⟨⟨_, he⟩, _⟩ := st; wpAny_pyIter_enum he h
def iEnumT (K : PySem.W.Frag) (ta : TA) : TI := fun σ H R => ta σ H fun vs H1 => ∃ a xs, vs = [.ref a] ∧ SqT K H1 a xs ∧ R (IteT K a) H1
theorem pi_enumT {X : Cx} {e : Expr} {ta : TA} {p pos tpos : Pos} {elts : List Expr} {kk : Nat} (hg : Gl X "enumerate") (hm : X.mg "enumerate" = none) (ha : PA X [e] ta) (hs : starEach [e] X.env = [(false, eval e X.env)] := by rfl) :
    PI X (.Tuple elts kk tpos) (.Call (.Name "enumerate" p) [e] [] pos) (iEnumT X.K ta) := by
  refine ⟨fun pins s σ H R I h => ?_⟩
  refine Call_ (ld_blt I hg hm boot_enumerate (PyProof.Rows.callWith_type1 (thn (ha.run pos pins s σ H _ I h) fun us s1 ⟨vs, H1, I1, r1, q1⟩ => ?_) hs rfl))
  obtain ⟨a, xs, ex, hq, q⟩ := q1
  subst ex
  cases r1 with
  | cons r rr =>
    cases rr
    cases r
    obtain ⟨its, rv, p', hz⟩ := I1.tuple hq
    refine enum1_begins (begins_tuple a its.toArray) p' fun h' he hit hsz hk => wpAny_pyIter_enum he ?_
    have I2 : Inv X pins σ H1 { s1 with heap := h' } := I1.kept (t' := s1.toks) hk
    refine ⟨s1.heap.objs.size + 1, [s1.heap.objs.size + 1, s1.heap.objs.size], _, _, H1, rfl, I2, turn_enumT a (s1.heap.objs.size + 1) s1.heap.objs.size, ⟨⟨.none, he⟩, ⟨_, hit, rfl, rfl⟩, Nat.succ_ne_self _⟩, fun b hb => ?_, q⟩
    have e' : b = s1.heap.objs.size + 1 ∨ b = s1.heap.objs.size := by simpa using hb
    have hle : s1.heap.objs.size ≤ b := by
      rcases e' with z | z
      · rw [z]; exact Nat.le_add_right _ _
      · rw [z]; exact Nat.le_refl _
    exact I1.fpOk hle (I1.hok.fresh hle)
theorem walk_enumT {K : PySem.W.Frag} {a : Addr} {xs : List V} : Walk (IteT K a) xs.length (fun H => SqT K H a xs) (YPair (fun i => some (.int (i : Nat))) (fun i => xs[i]?)) := by
  refine ⟨fun i _ hi q => ⟨xs, xs[i], q, by simp [hi]⟩, fun _ q => ⟨xs, q, Nat.le_refl _⟩, fun i H v H' _ q y => ?_⟩
  obtain ⟨T, x, h1, h2, h3, h4⟩ := y
  exact ⟨T, .int (i : Nat), x, h1, h2, h3, rfl, h4 xs q⟩
theorem src_enumT {E : Am} {F : Hp} {a : Addr} {vs : List V} {ds : List D} (h : SqT E.K F a vs) (r : RepL E F ds vs) : Src E F (IteT E.K a) (enumD 0 ds) := by
  refine ⟨_, _, by rw [enumD_len, r.len]; exact walk_enumT, fun H2 s => sqT_mono s h, fun i H2 x H3 F2 d e s1 s2 y => ?_⟩
  obtain ⟨T, x1, y1, e1, e2, e3, e4, e5⟩ := y
  obtain ⟨d', f1, f2⟩ := enumD_get e
  obtain ⟨d2, g1, g2⟩ := r.getV e5
  rw [f1] at g1; cases g1
  cases e4
  subst f2
  have z : (0 : Int) + (i : Int) = (i : Int) := by omega
  rw [z]
  exact src_pair s2 e2 e3 e1 rfl (Rep.mono s1 _ _ g2)
def pEnumT (q : Ev → Rs (List D)) : Ev → Rs (List D) := fun ρ => (q ρ).bind fun ds => match ds with | [.tup es] => .ok (enumD 0 es) | _ => .no
theorem xi_enumT {I : Type} {X : I → Cx} {E : Am} {W : WX} {k : Nat} {e : Expr} {p pos tpos : Pos} {elts : List Expr} {kk : Nat} {q : Ev → Rs (List D)} (c : Ctx X E W k) (hg : ∀ i, Gl (X i) "enumerate") (hm : ∀ i, (X i).mg "enumerate" = none) (ha : XA X E W [e] q) (hs : ∀ i, starEach [e] (X i).env = [(false, eval e (X i).env)] := by intro _; rfl) :
    XI X E W (.Tuple elts kk tpos) (.Call (.Name "enumerate" p) [e] [] pos) (pEnumT q) := by
  obtain ⟨t, h1, h2⟩ := ha
  refine ⟨iEnumT E.K t, fun i => by rw [← c.K i]; exact pi_enumT (hg i) (hm i) (h1 i) (hs i), fun B F H σ ρ Q s sb r post => ?_⟩
  show t σ H _
  refine Evals.seq h2 s sb r post fun F1 H1 ds vs e1 x1 sb1 r1 gg post1 => ?_
  split at post1
  · rename_i es
    obtain ⟨v, r', rfl, g1, g2⟩ := gg
    cases g2
    obtain ⟨a, us, rfl, q1, q2⟩ := g1
    exact ⟨a, us, rfl, sqT_mono x1.fh q1, ev_ok x1.fh post1 (src_enumT q1 q2)⟩
  · exact post1.elim
def enumOf : List D → Rs (List D)
  | [.tup es] => .ok (enumD 0 es)
  | [.lst es] => .ok (enumD 0 es)
  | [.kl es] => .ok (enumD 0 es)
  | _ => .no
def pEnum2 (q : Ev → Rs (List D)) : Ev → Rs (List D) := fun ρ => (q ρ).bind enumOf
theorem xi_enum2 {I : Type} {X : I → Cx} {E : Am} {W : WX} {k : Nat} {e : Expr} {p pos tpos : Pos} {elts : List Expr} {kk : Nat} {q : Ev → Rs (List D)} (c : Ctx X E W k) (hg : ∀ i, Gl (X i) "enumerate") (hm : ∀ i, (X i).mg "enumerate" = none) (ha : XA X E W [e] q) (hs : ∀ i, starEach [e] (X i).env = [(false, eval e (X i).env)] := by intro _; rfl) :
    XI X E W (.Tuple elts kk tpos) (.Call (.Name "enumerate" p) [e] [] pos) (pEnum2 q) := by
  obtain ⟨t, h1, h2⟩ := ha
  refine ⟨fun σ H R => iEnum E.K t σ H R ∨ iEnumT E.K t σ H R, fun i => by rw [← c.K i]; exact pi_or (pi_enum (hg i) (hm i) (h1 i) (hs i)) (pi_enumT (hg i) (hm i) (h1 i) (hs i)), fun B F H σ ρ Q s sb r post => ?_⟩
  cases eq : q ρ with
  | no =>
    replace post : Post E W σ F H _ Q ((q ρ).bind enumOf) := post
    rw [eq] at post; exact post.elim
  | err cc z =>
    replace post : Post E W σ F H _ Q ((q ρ).bind enumOf) := post
    rw [eq] at post
    exact .inl (h2 B F H σ ρ _ s sb r (by rw [eq]; exact post))
  | ok ds =>
    replace post : Post E W σ F H _ Q ((q ρ).bind enumOf) := post
    rw [eq] at post
    replace post : Post E W σ F H _ Q (enumOf ds) := post
    unfold enumOf at post
    split at post
    · rename_i es
      refine .inr (h2 B F H σ ρ _ s sb r ?_)
      rw [eq]
      intro F1 H1 vs x1 gg
      obtain ⟨v, r', rfl, g1, g2⟩ := gg
      cases g2
      obtain ⟨a, us, rfl, q1, q2⟩ := g1
      exact ⟨a, us, rfl, sqT_mono x1.fh q1, ev_ok x1.fh (Post.after x1 post) (src_enumT q1 q2)⟩
    · rename_i es
      refine .inl (h2 B F H σ ρ _ s sb r ?_)
      rw [eq]
      intro F1 H1 vs x1 gg
      obtain ⟨v, r', rfl, g1, g2⟩ := gg
      cases g2
      obtain ⟨a, us, rfl, q1, q2⟩ := repO_list (d := .lst es) (F := F1) (H := F1) (Same.refl F1) rfl (.inl g1)
      exact ⟨a, us, rfl, sqL_mono x1.fh q1, ev_ok x1.fh (Post.after x1 post) (src_enum q1 q2)⟩
    · rename_i es
      refine .inl (h2 B F H σ ρ _ s sb r ?_)
      rw [eq]
      intro F1 H1 vs x1 gg
      obtain ⟨v, r', rfl, g1, g2⟩ := gg
      cases g2
      obtain ⟨a, us, rfl, q1, q2⟩ := repO_list (d := .kl es) (F := F1) (H := F1) (Same.refl F1) rfl (.inl g1)
      exact ⟨a, us, rfl, sqL_mono x1.fh q1, ev_ok x1.fh (Post.after x1 post) (src_enum q1 q2)⟩
    · exact post.elim
end DL
end

section
set_option linter.all false
set_option maxRecDepth 100000
set_option maxHeartbeats 4000000
set_option exponentiation.threshold 2000
namespace DL
open PySem L2
/-! ## computing with the plain functions -/
theorem log2_lt {n : Nat} {k : Nat} (h : n < 2 ^ k) (hk : 0 < k) : n.log2 < k := PySem.Flt.log2_lt_of hk h
@[simp] theorem fMod_ok {i j : Int} (h : 0 < j) : fMod (.int i) (.int j) = .ok (.int (i % j)) := by
  show (if decide (0 < j) then Rs.ok (D.int (i % j)) else .no) = _
  rw [decide_eq_true h]; rfl
@[simp] theorem fDiv_ok {i j : Int} (h : 0 < j) (h2 : j < 10 ^ 200) : fDiv (.int i) (.int j) = .ok (.int (i / j)) := by
  have hl : j.natAbs.log2 < 9000 := by
    have e : (10 : Int) ^ 200 ≤ 2 ^ 1000 := by decide
    have h3 : j.natAbs < 2 ^ 1000 := by
      have e2 : ((2 : Int) ^ 1000) = ((2 ^ 1000 : Nat) : Int) := by norm_cast
      omega
    exact Nat.lt_trans (log2_lt h3 (by decide)) (by decide)
  show (if divOk i j then Rs.ok (D.int (i / j)) else .no) = _
  unfold divOk
  rw [decide_eq_true h, decide_eq_true hl]; rfl
theorem fMul_l {i j : Int} (h : i.natAbs < 2 ^ 64) : fMul (.int i) (.int j) = .ok (.int (i * j)) := by
  show (if mulOk i j then Rs.ok (D.int (i * j)) else .no) = _
  unfold mulOk
  rw [decide_eq_true h]; rfl
theorem fMul_r {i j : Int} (h : j.natAbs < 2 ^ 64) : fMul (.int i) (.int j) = .ok (.int (i * j)) := by
  show (if mulOk i j then Rs.ok (D.int (i * j)) else .no) = _
  unfold mulOk
  rw [decide_eq_true h, Bool.or_true]; rfl
theorem fMul_w {i j : Int} (h : i.natAbs < 10 ^ 300) (h2 : j.natAbs < 10 ^ 300) : fMul (.int i) (.int j) = .ok (.int (i * j)) := by
  have e : (10 : Nat) ^ 300 ≤ 2 ^ 1000 := by decide
  have h3 := log2_lt (Nat.lt_of_lt_of_le h e) (by decide)
  have h4 := log2_lt (Nat.lt_of_lt_of_le h2 e) (by decide)
  show (if mulOk i j then Rs.ok (D.int (i * j)) else .no) = _
  unfold mulOk
  have h5 : i.natAbs.log2 + j.natAbs.log2 < 1000000 := by omega
  rw [decide_eq_true h5, Bool.or_true]; rfl
@[simp] theorem fAdd_int {i j : Int} : fAdd (.int i) (.int j) = .ok (.int (i + j)) := rfl
@[simp] theorem fSub_int {i j : Int} : fSub (.int i) (.int j) = .ok (.int (i - j)) := rfl
@[simp] theorem fLt_int {i j : Int} : fLt (.int i) (.int j) = .ok (.bl (decide (i < j))) := rfl
@[simp] theorem fLe_int {i j : Int} : fLe (.int i) (.int j) = .ok (.bl (decide (i ≤ j))) := rfl
@[simp] theorem fGt_int {i j : Int} : fGt (.int i) (.int j) = .ok (.bl (decide (j < i))) := rfl
@[simp] theorem fGe_int {i j : Int} : fGe (.int i) (.int j) = .ok (.bl (decide (j ≤ i))) := rfl
@[simp] theorem fEq_int {i j : Int} : fEq (.int i) (.int j) = .ok (.bl (decide (i = j))) := by
  show Rs.ok (D.bl (i == j)) = _
  rfl
@[simp] theorem fNe_int {i j : Int} : fNe (.int i) (.int j) = .ok (.bl (!decide (i = j))) := by
  show Rs.ok (D.bl (!(i == j))) = _
  rfl
@[simp] theorem fEq_bl {i j : Bool} : fEq (.bl i) (.bl j) = .ok (.bl (i == j)) := rfl
@[simp] theorem fNe_bl {i j : Bool} : fNe (.bl i) (.bl j) = .ok (.bl (!(i == j))) := rfl
@[simp] theorem fNeg_int {i : Int} : fNeg (.int i) = .ok (.int (-i)) := rfl
@[simp] theorem fAbs_int {i : Int} : fAbs [.int i] = .ok (.int (if i < 0 then -i else i)) := rfl
@[simp] theorem fInt_int {i : Int} : fInt [.int i] = .ok (.int i) := rfl
@[simp] theorem fInt_bl {i : Bool} : fInt [.bl i] = .ok (.int (if i then 1 else 0)) := rfl
@[simp] theorem fMax2_int {i j : Int} : fMax2 [.int i, .int j] = .ok (.int (if j > i then j else i)) := rfl
@[simp] theorem fMin2_int {i j : Int} : fMin2 [.int i, .int j] = .ok (.int (if j < i then j else i)) := rfl
@[simp] theorem fGcd_int {i j : Int} : fGcd [.int i, .int j] = .ok (.int ((Nat.gcd i.natAbs j.natAbs : Nat) : Int)) := rfl
@[simp] theorem fLen_lst {ds : List D} : fLen [.lst ds] = .ok (.int ds.length) := rfl
@[simp] theorem fLen_kl {ds : List D} : fLen [.kl ds] = .ok (.int ds.length) := rfl
@[simp] theorem fLen_tup {ds : List D} : fLen [.tup ds] = .ok (.int ds.length) := rfl
@[simp] theorem fList_lst {ds : List D} : fList [.lst ds] = .ok (.lst ds) := rfl
@[simp] theorem fList_kl {ds : List D} : fList [.kl ds] = .ok (.lst ds) := rfl
@[simp] theorem fList_tup {ds : List D} : fList [.tup ds] = .ok (.lst ds) := rfl
@[simp] theorem fTuple_lst {ds : List D} : fTuple [.lst ds] = .ok (.tup ds) := rfl
@[simp] theorem fTuple_kl {ds : List D} : fTuple [.kl ds] = .ok (.tup ds) := rfl
@[simp] theorem fTuple_tup {ds : List D} : fTuple [.tup ds] = .ok (.tup ds) := rfl
@[simp] theorem toB_bl {b : Bool} : toB (.bl b) = .ok b := rfl
@[simp] theorem tru_bl {b : Bool} : tru (.bl b) = .ok b := rfl
@[simp] theorem tru_non : tru .non = .ok false := rfl
@[simp] theorem tru_lst {ds : List D} : tru (.lst ds) = .ok (!ds.isEmpty) := rfl
@[simp] theorem tru_tup {ds : List D} : tru (.tup ds) = .ok (!ds.isEmpty) := rfl
theorem sz_eq : sizeLine = 16777216 := sizeLine_eq
theorem fPow_ok {i j : Int} {r : Int} (h : powOk i j = true) (e : i ^ j.toNat = r) : fPow (.int i) (.int j) = .ok (.int r) := by
  show (if powOk i j then Rs.ok (D.int (i ^ j.toNat)) else .no) = _
  rw [h, e]; rfl
@[simp] theorem pow10_18 : fPow (.int 10) (.int 18) = .ok (.int 1000000000000000000) := fPow_ok (by decide +kernel) (by decide +kernel)
@[simp] theorem pow10_30 : fPow (.int 10) (.int 30) = .ok (.int 1000000000000000000000000000000) := fPow_ok (by decide +kernel) (by decide +kernel)
@[simp] theorem iterD_lst {ds : List D} : iterD (.lst ds) = some ds := rfl
@[simp] theorem iterD_kl {ds : List D} : iterD (.kl ds) = some ds := rfl
@[simp] theorem iterD_tup {ds : List D} : iterD (.tup ds) = some ds := rfl
@[simp] theorem gN_eq {i : Nat} {d : D} {ρ : Ev} : gN i d ρ = some (ρ.set i (.dat d)) := rfl
@[simp] theorem gTp_tup {q : List D → Ev → Option Ev} {ds : List D} {ρ : Ev} : gTp q (.tup ds) ρ = q ds ρ := rfl
@[simp] theorem gsCons_cons {p : D → Ev → Option Ev} {q : List D → Ev → Option Ev} {d : D} {r : List D} {ρ : Ev} : gsCons p q (d :: r) ρ = (p d ρ).bind fun ρ1 => q r ρ1 := rfl
@[simp] theorem gsNil_nil {ρ : Ev} : gsNil [] ρ = some ρ := rfl
@[simp] theorem itemsL_lst {ds : List D} : itemsL (.lst ds) = some ds := rfl
@[simp] theorem itemsL_kl {ds : List D} : itemsL (.kl ds) = some ds := rfl
@[simp] theorem forL_nil {g : D → Ev → Option Ev} {body : Ev → Fl} {ρ : Ev} : forL g body [] ρ = .nx ρ := rfl
theorem forL_step {g : D → Ev → Option Ev} {body : Ev → Fl} {d : D} {ds : List D} {ρ ρ1 ρ2 : Ev} (h1 : g d ρ = some ρ1) (h2 : body ρ1 = .nx ρ2) : forL g body (d :: ds) ρ = forL g body ds ρ2 := by
  show (match g d ρ with | none => Fl.no | some ρ1 => match body ρ1 with | .nx ρ2 => forL g body ds ρ2 | .ct ρ2 => forL g body ds ρ2 | .bk ρ2 => .nx ρ2 | .rt d => .rt d | .err c x ρ2 => .err c x ρ2 | .no => .no) = _
  rw [h1]; simp only; rw [h2]
theorem forL_ret {g : D → Ev → Option Ev} {body : Ev → Fl} {d : D} {ds : List D} {ρ ρ1 : Ev} {r : D} (h1 : g d ρ = some ρ1) (h2 : body ρ1 = .rt r) : forL g body (d :: ds) ρ = .rt r := by
  show (match g d ρ with | none => Fl.no | some ρ1 => match body ρ1 with | .nx ρ2 => forL g body ds ρ2 | .ct ρ2 => forL g body ds ρ2 | .bk ρ2 => .nx ρ2 | .rt d => .rt d | .err c x ρ2 => .err c x ρ2 | .no => .no) = _
  rw [h1]; simp only; rw [h2]
theorem forL_brk {g : D → Ev → Option Ev} {body : Ev → Fl} {d : D} {ds : List D} {ρ ρ1 ρ2 : Ev} (h1 : g d ρ = some ρ1) (h2 : body ρ1 = .bk ρ2) : forL g body (d :: ds) ρ = .nx ρ2 := by
  show (match g d ρ with | none => Fl.no | some ρ1 => match body ρ1 with | .nx ρ2 => forL g body ds ρ2 | .ct ρ2 => forL g body ds ρ2 | .bk ρ2 => .nx ρ2 | .rt d => .rt d | .err c x ρ2 => .err c x ρ2 | .no => .no) = _
  rw [h1]; simp only; rw [h2]
theorem whL_step {c : Ev → Rs Bool} {body : Ev → Fl} {n : Nat} {ρ ρ2 : Ev} (h1 : c ρ = .ok true) (h2 : body ρ = .nx ρ2) : whL c body (n + 1) ρ = whL c body n ρ2 := by
  show (match c ρ with
    | .ok true => (match body ρ with
      | .nx ρ2 => whL c body n ρ2
      | .ct ρ2 => whL c body n ρ2
      | .bk ρ2 => .nx ρ2
      | .rt d => .rt d
      | .err c x ρ2 => .err c x ρ2
      | .no => .no)
    | .ok false => .nx ρ
    | .err c x => .err c x ρ
    | .no => .no) = _
  rw [h1]; simp only; rw [h2]
theorem whL_end {c : Ev → Rs Bool} {body : Ev → Fl} {n : Nat} {ρ : Ev} (h1 : c ρ = .ok false) : whL c body (n + 1) ρ = .nx ρ := by
  unfold whL; rw [h1]
/-- a comprehension without a test -/
theorem lcL_map {g : D → Ev → Option Ev} {pe : Ev → Rs D} {ρ : Ev} {h : D → D} : ∀ {ds : List D}, (∀ d ∈ ds, ∃ ρ1, g d ρ = some ρ1 ∧ pe ρ1 = .ok (h d)) → lcL g pYes pe ρ ds = some (ds.map h)
  | [], _ => rfl
  | d :: ds, H => by
    obtain ⟨ρ1, h1, h2⟩ := H d List.mem_cons_self
    unfold lcL
    rw [h1]
    simp only [pYes]
    rw [h2, lcL_map fun d hd => H d (List.mem_cons_of_mem _ hd)]
    rfl
/-- .. with one -/
theorem lcL_filter {g : D → Ev → Option Ev} {pt : Ev → Rs Bool} {pe : Ev → Rs D} {ρ : Ev} {t : D → Bool} {h : D → D} : ∀ {ds : List D}, (∀ d ∈ ds, ∃ ρ1, g d ρ = some ρ1 ∧ pt ρ1 = .ok (t d) ∧ (t d = true → pe ρ1 = .ok (h d))) → lcL g pt pe ρ ds = some ((ds.filter t).map h)
  | [], _ => rfl
  | d :: ds, H => by
    obtain ⟨ρ1, h1, h2, h3⟩ := H d List.mem_cons_self
    have ih := lcL_filter (fun d hd => H d (List.mem_cons_of_mem _ hd))
    unfold lcL
    rw [h1]
    simp only
    rw [h2]
    cases e : t d with
    | true =>
      simp only
      rw [h3 e, ih, List.filter_cons_of_pos e]; rfl
    | false =>
      simp only
      rw [ih, List.filter_cons_of_neg (by simp [e])]
theorem ixN_nat {n j : Nat} (h : j < n) : ixN n (j : Int) = some j := by
  unfold ixN
  rw [if_pos (by omega), if_pos (by omega)]
  simp
theorem fIx_lst {ds : List D} {i : Int} {d : D} (h0 : 0 ≤ i) (h : ds[i.toNat]? = some d) : fIx (.lst ds) (.int i) = .ok d := by
  have hi : i.toNat < ds.length := (List.getElem?_eq_some_iff.mp h).1
  have e : atI ds i = some d := by
    unfold atI
    have : i = ((i.toNat : Nat) : Int) := by omega
    rw [this, ixN_nat hi]
    simpa using h
  show (match items (.lst ds) with | some es => (match atI es i with | some x => Rs.ok x | none => .no) | none => .no) = _
  simp only [items, e]
theorem fIx_tup {ds : List D} {i : Int} {d : D} (h0 : 0 ≤ i) (h : ds[i.toNat]? = some d) : fIx (.tup ds) (.int i) = .ok d := by
  have hi : i.toNat < ds.length := (List.getElem?_eq_some_iff.mp h).1
  have e : atI ds i = some d := by
    unfold atI
    have : i = ((i.toNat : Nat) : Int) := by omega
    rw [this, ixN_nat hi]
    simpa using h
  show (match items (.tup ds) with | some es => (match atI es i with | some x => Rs.ok x | none => .no) | none => .no) = _
  simp only [items, e]
@[simp] theorem fIx_pair0 {a b : D} : fIx (.tup [a, b]) (.int 0) = .ok a := fIx_tup (by decide) rfl
@[simp] theorem fIx_pair1 {a b : D} : fIx (.tup [a, b]) (.int 1) = .ok b := fIx_tup (by decide) rfl
/-- a slice ahead -/
theorem sIx_some {n : Nat} {k : Nat} (d : Nat) : HT.sIx n d (some (k : Int)) = min k n := HT.sIx_nat n d k
theorem cutD_take {α : Type} (xs : List α) (k : Nat) : cutD xs none (some (k : Int)) = xs.take k := by
  unfold cutD
  rw [HT.sIx_nat]
  show (xs.drop 0).take (min k xs.length - 0) = _
  rw [List.drop_zero, Nat.sub_zero, Nat.min_comm]
  rw [List.take_eq_take_iff]
  omega
theorem cutD_drop {α : Type} (xs : List α) (k : Nat) : cutD xs (some (k : Int)) none = xs.drop k := by
  unfold cutD
  rw [HT.sIx_nat]
  show (xs.drop (min k xs.length)).take (xs.length - min k xs.length) = _
  by_cases h : k ≤ xs.length
  · rw [Nat.min_eq_left h, List.take_of_length_le (by simp)]
  · rw [Nat.min_eq_right (by omega), List.drop_of_length_le (Nat.le_refl _), List.drop_of_length_le (by omega)]; simp
end DL
end

section
set_option linter.all false
set_option maxRecDepth 100000
noncomputable section
namespace DL
open PySem L2
abbrev c_MOST : D := .int 1000000000000000000000000000000
abbrev c_MOST_NAME_CHARS : D := .int 12
abbrev c_MOST_POCKETS : D := .int 12
abbrev c_NAME_CHARS : D := .str "abcdefghijklmnopqrstuvwxyz0123456789"
/-- require(holds) : 0 holds -/
def p_require : Ev → Fl :=
  (pIfS (pNot (pTr (pV 0)))
    (fun ρ => Fl.err "InvalidTable" none ρ)
    pNext)
def f_require : List D → Rs D := runF 1 p_require
/-- Table.is_point(self, point) : 0 self, 1 point -/
def p_Table_is_point : Ev → Fl :=
  (pRet (pAndV (pChain fLe fLe (pC (.int 0)) (pBin fIx (pV 1) (pC (.int 0))) (pUn (fFld "Table" "width") (pV 0))) (pChain fLe fLe (pC (.int 0)) (pBin fIx (pV 1) (pC (.int 1))) (pUn (fFld "Table" "height") (pV 0)))))
def f_Table_is_point : List D → Rs D := runF 2 p_Table_is_point
/-- Table.__init__(self, width, height, pockets) : 0 self, 1 width, 2 height, 3 pockets, 4 point, 5 number -/
def e_Table_init_0 : Ev → Rs D :=
  (pBin fEq (pCall fLen (pCons (pV 4) pNil)) (pC (.int 2)))
def e_Table_init_1 : Ev → Rs D :=
  (pCall fTuple (pCons (pV 4) pNil))
def l_Table_init_0 : Ev → Fl :=
  (pDrop (pFn (arity 1 f_require) [] (pCons (pAndV (pMeth "Table" "is_point" (arity 2 f_Table_is_point) (pV 0) (pCons (pV 4) pNil)) (pBin (fIn true) (pV 4) (pSl fSl (pUn (fFld "Table" "pockets") (pV 0)) pNo (pPart (pV 5))))) pNil)))
def r_Table_init_0 : Ev → Fl :=
  (pFor (pEnum2 (pCons (pUn (fFld "Table" "pockets") (pV 0)) pNil)) (gTp (gsCons (gN 5) (gsCons (gN 4) gsNil))) l_Table_init_0)
def p_Table_init : PI0 :=
  (qStm (pDrop (pFn (arity 1 f_require) [] (pCons (pAndV (pChain fLe fLe (pC (.int 1)) (pV 1) (pC c_MOST)) (pChain fLe fLe (pC (.int 1)) (pV 2) (pC c_MOST))) pNil)))
  (qFld "Table" "width" (pV 1)
  (qFld "Table" "height" (pV 2)
  (qStm (pDrop (pFn (arity 1 f_require) [] (pCons (pAndV (pBin fLe (pCall fLen (pCons (pV 3) pNil)) (pC c_MOST_POCKETS)) (pCall fAll (pCons (pLc (pIter (pV 3)) (gN 4) pYes e_Table_init_0 [4]) pNil))) pNil)))
  (qFld "Table" "pockets" (pCall fTuple (pCons (pLc (pIter (pV 3)) (gN 4) pYes e_Table_init_1 [4]) pNil))
  (qRest r_Table_init_0))))))
def f_Table_init : Addr → List D → Rs D := runI 6 "Table" p_Table_init
/-- is_name(text) : 0 text, 1 char -/
def e_is_name_0 : Ev → Rs D :=
  (pBin (fIn false) (pV 1) (pC c_NAME_CHARS))
def p_is_name : Ev → Fl :=
  (pSeq (pIfS (pOr (pNot (pB (pChain fLe fLe (pC (.int 1)) (pCall fLen (pCons (pV 0) pNil)) (pC c_MOST_NAME_CHARS)))) (pB (pBin (fIn false) (pBin fIx (pV 0) (pC (.int 0))) (pC (.str "0123456789")))))
    (pRet (pC (.bl false)))
    pNext)
  (pRet (pCall fAll (pCons (pLc (pIter (pV 0)) (gN 1) pYes e_is_name_0 [1]) pNil))))
def f_is_name : List D → Rs D := runF 2 p_is_name
/-- is_ball(table, ball) : 0 table, 1 ball, 2 _, 3 x, 4 y, 5 dx, 6 dy, 7 minute -/
def p_is_ball : Ev → Fl :=
  (pSeq (pIfS (pOr (pB (pBin fNe (pCall fLen (pCons (pV 1) pNil)) (pC (.int 6)))) (pNot (pTr (pFn (arity 1 f_is_name) [] (pCons (pBin fIx (pV 1) (pC (.int 0))) pNil)))))
    (pRet (pC (.bl false)))
    pNext)
  (pSeq (pAsg (gTp (gsCons (gN 2) (gsCons (gN 3) (gsCons (gN 4) (gsCons (gN 5) (gsCons (gN 6) (gsCons (gN 7) gsNil))))))) (pV 1))
  (pSeq (pIfS (pOr (pNot (pTr (pMeth "Table" "is_point" (arity 2 f_Table_is_point) (pV 0) (pCons (pTup (pCons (pV 3) (pCons (pV 4) pNil))) pNil)))) (pNot (pB (pChain fLe fLe (pC (.int 0)) (pV 7) (pC c_MOST)))))
    (pRet (pC (.bl false)))
    pNext)
  (pRet (pAndV (pBin (fIn false) (pV 5) (pTup (pCons (pUn fNeg (pC (.int 1))) (pCons (pC (.int 0)) (pCons (pC (.int 1)) pNil))))) (pAndV (pBin (fIn false) (pV 6) (pTup (pCons (pUn fNeg (pC (.int 1))) (pCons (pC (.int 0)) (pCons (pC (.int 1)) pNil))))) (pBin fNe (pTup (pCons (pV 5) (pCons (pV 6) pNil))) (pTup (pCons (pC (.int 0)) (pCons (pC (.int 0)) pNil))))))))))
def f_is_ball : List D → Rs D := runF 8 p_is_ball
/-- check_ball(table, ball) : 0 table, 1 ball -/
def p_check_ball : Ev → Fl :=
  (pIfS (pNot (pTr (pFn (arity 2 f_is_ball) [] (pCons (pV 0) (pCons (pV 1) pNil)))))
    (fun ρ => Fl.err "InvalidBall" none ρ)
    pNext)
def f_check_ball : List D → Rs D := runF 2 p_check_ball
/-- phase_of(size, place, step) : 0 size, 1 place, 2 step -/
def p_phase_of : Ev → Fl :=
  (pRet (pIf (pB (pBin fEq (pV 2) (pC (.int 1)))) (pV 1) (pBin fMod (pUn fNeg (pV 1)) (pBin fMul (pC (.int 2)) (pV 0)))))
def f_phase_of : List D → Rs D := runF 3 p_phase_of
/-- fold(size, phase) : 0 size, 1 phase, 2 rest -/
def p_fold : Ev → Fl :=
  (pSeq (pSet 2 (pBin fMod (pV 1) (pBin fMul (pC (.int 2)) (pV 0))))
  (pRet (pCall fMin2 (pCons (pV 2) (pCons (pBin fSub (pBin fMul (pC (.int 2)) (pV 0)) (pV 2)) pNil)))))
def f_fold : List D → Rs D := runF 3 p_fold
/-- part_at(size, place, step, passed) : 0 size, 1 place, 2 step, 3 passed -/
def p_part_at : Ev → Fl :=
  (pSeq (pIfS (pB (pBin fEq (pV 2) (pC (.int 0))))
    (pRet (pV 1))
    pNext)
  (pRet (pFn (arity 2 f_fold) [] (pCons (pV 0) (pCons (pBin fAdd (pFn (arity 3 f_phase_of) [] (pCons (pV 0) (pCons (pV 1) (pCons (pV 2) pNil)))) (pV 3)) pNil)))))
def f_part_at : List D → Rs D := runF 4 p_part_at
/-- step_at(size, place, step, passed) : 0 size, 1 place, 2 step, 3 passed -/
def p_step_at : Ev → Fl :=
  (pSeq (pIfS (pB (pBin fEq (pV 2) (pC (.int 0))))
    (pRet (pC (.int 0)))
    pNext)
  (pRet (pIf (pB (pBin fLt (pBin fMod (pBin fAdd (pFn (arity 3 f_phase_of) [] (pCons (pV 0) (pCons (pV 1) (pCons (pV 2) pNil)))) (pV 3)) (pBin fMul (pC (.int 2)) (pV 0))) (pV 0))) (pC (.int 1)) (pUn fNeg (pC (.int 1))))))
def f_step_at : List D → Rs D := runF 4 p_step_at
/-- parts_of(table, ball) : 0 table, 1 ball -/
def p_parts_of : Ev → Fl :=
  (pRet (pTup (pCons (pTup (pCons (pUn (fFld "Table" "width") (pV 0)) (pCons (pBin fIx (pV 1) (pC (.int 1))) (pCons (pBin fIx (pV 1) (pC (.int 3))) pNil)))) (pCons (pTup (pCons (pUn (fFld "Table" "height") (pV 0)) (pCons (pBin fIx (pV 1) (pC (.int 2))) (pCons (pBin fIx (pV 1) (pC (.int 4))) pNil)))) pNil))))
def f_parts_of : List D → Rs D := runF 2 p_parts_of
/-- place_at(table, ball, minute) : 0 table, 1 ball, 2 minute, 3 size, 4 place, 5 step -/
def e_place_at_0 : Ev → Rs D :=
  (pFn (arity 4 f_part_at) [] (pCons (pV 3) (pCons (pV 4) (pCons (pV 5) (pCons (pBin fSub (pV 2) (pBin fIx (pV 1) (pC (.int 5)))) pNil)))))
def p_place_at : Ev → Fl :=
  (pSeq (pDrop (pFn (arity 2 f_check_ball) [] (pCons (pV 0) (pCons (pV 1) pNil))))
  (pSeq (pIfS (pB (pBin fLt (pV 2) (pBin fIx (pV 1) (pC (.int 5)))))
    (pRet (pC .non))
    pNext)
  (pRet (pCall fTuple (pCons (pLc (pIter (pFn (arity 2 f_parts_of) [] (pCons (pV 0) (pCons (pV 1) pNil)))) (gTp (gsCons (gN 3) (gsCons (gN 4) (gsCons (gN 5) gsNil)))) pYes e_place_at_0 [3, 4, 5]) pNil)))))
def f_place_at : List D → Rs D := runF 6 p_place_at
/-- heading_at(table, ball, minute) : 0 table, 1 ball, 2 minute, 3 size, 4 place, 5 step -/
def e_heading_at_0 : Ev → Rs D :=
  (pFn (arity 4 f_step_at) [] (pCons (pV 3) (pCons (pV 4) (pCons (pV 5) (pCons (pBin fSub (pV 2) (pBin fIx (pV 1) (pC (.int 5)))) pNil)))))
def p_heading_at : Ev → Fl :=
  (pSeq (pDrop (pFn (arity 2 f_check_ball) [] (pCons (pV 0) (pCons (pV 1) pNil))))
  (pSeq (pIfS (pB (pBin fLt (pV 2) (pBin fIx (pV 1) (pC (.int 5)))))
    (pRet (pC .non))
    pNext)
  (pRet (pCall fTuple (pCons (pLc (pIter (pFn (arity 2 f_parts_of) [] (pCons (pV 0) (pCons (pV 1) pNil)))) (gTp (gsCons (gN 3) (gsCons (gN 4) (gsCons (gN 5) gsNil)))) pYes e_heading_at_0 [3, 4, 5]) pNil)))))
def f_heading_at : List D → Rs D := runF 6 p_heading_at
/-- _law_row(_law_cell, _law_many) : 0 _law_cell, 1 _law_many, 2 _law_row_here, 3 _law_rest, 4 _law_mixed, 5 _law_k -/
def l_law_row_0 : Ev → Fl :=
  (pSeq (pSet 4 (pBin fMod (pCall fInt (pCons (pBin fAdd (pBin fMul (pV 4) (pC (.int 16807))) (pBin fMul (pC (.int 271)) (pBin fAdd (pV 5) (pC (.int 3))))) pNil)) (pC (.int 2147483629))))
  (pIfS (pB (pBin fGe (pCall fAbs (pCons (pV 0) pNil)) (pBin fPow (pC (.int 10)) (pC (.int 18)))))
    (pSeq (pApp 2 (pBin fMod (pCall fInt (pCons (pV 3) pNil)) (pC (.int 1009))))
  (pSet 3 (pBin fDiv (pV 3) (pC (.int 1009)))))
    (pApp 2 (pBin fMod (pCall fInt (pCons (pBin fDiv (pV 4) (pC (.int 7))) pNil)) (pC (.int 1009))))))
def p_law_row : Ev → Fl :=
  (pSeq (pSetO 2 (pLst pNil))
  (pSeq (pSet 3 (pCall fAbs (pCons (pV 0) pNil)))
  (pSeq (pSet 4 (pBin fMod (pCall fInt (pCons (pBin fAdd (pBin fMul (pV 3) (pC (.int 48271))) (pC (.int 69621))) pNil)) (pC (.int 2147483647))))
  (pSeq (pFor (pRg1 (pCons (pV 1) pNil)) (gN 5) l_law_row_0)
  (pFrz 2 (pRet (pV 2)))))))
def f_law_row : List D → Rs D := runF 6 p_law_row
/-- _law_numbers(_law_script, _law_many) : 0 _law_script, 1 _law_many, 2 _law_cells, 3 _law_each, 4 _law_numbers_here, 5 _law_cell, 6 _law_number -/
def l_law_numbers_0 : Ev → Fl :=
  (pApp 4 (pV 6))
def l_law_numbers_1 : Ev → Fl :=
  (pFor (pIter (pFn (arity 2 f_law_row) [] (pCons (pV 5) (pCons (pV 3) pNil)))) (gN 6) l_law_numbers_0)
def w_law_numbers_0 : Ev → Fl :=
  (pApp 4 (pC (.int 0)))
def wc_law_numbers_0 : Ev → Rs Bool :=
  (pB (pBin fLt (pCall fLen (pCons (pVo 4) pNil)) (pV 1)))
def p_law_numbers : Ev → Fl :=
  (pSeq (pSet 2 (pSl fSl (pV 0) pNo (pPart (pC (.int 63)))))
  (pSeq (pSet 3 (pBin fAdd (pC (.int 1)) (pBin fDiv (pV 1) (pCall fMax2 (pCons (pC (.int 1)) (pCons (pCall fLen (pCons (pV 2) pNil)) pNil))))))
  (pSeq (pSetO 4 (pLst pNil))
  (pSeq (pFor (pIter (pV 2)) (gN 5) l_law_numbers_1)
  (pSeq (pWhile (fun ρ => fuelI 1 ρ) wc_law_numbers_0 w_law_numbers_0)
  (pFrz 4 (pRet (pSl fSl (pV 4) pNo (pPart (pV 1))))))))))
def f_law_numbers : List D → Rs D := runF 7 p_law_numbers
/-- _law_is_integer(_law_actual) : 0 _law_actual -/
def p_law_is_integer : Ev → Fl :=
  (pRet (pAndV (pIsi "int" (pV 0)) (pNotV (pIsi "bool" (pV 0)))))
def f_law_is_integer : List D → Rs D := runF 1 p_law_is_integer
/-- _law_size(_law_number) : 0 _law_number -/
def p_law_size : Ev → Fl :=
  (pRet (pBin fIx (pLst (pCons (pBin fAdd (pC (.int 1)) (pBin fMod (pCall fInt (pCons (pV 0) pNil)) (pC (.int 7)))) (pCons (pBin fAdd (pC (.int 1)) (pBin fMod (pCall fInt (pCons (pV 0) pNil)) (pC (.int 4)))) (pCons (pC (.int 6)) (pCons (pC (.int 4)) (pCons (pBin fAdd (pC (.int 1)) (pBin fMod (pCall fInt (pCons (pV 0) pNil)) (pC (.int 9)))) (pCons (pC (.int 2)) (pCons (pC (.int 3)) (pCons (pC (.int 1)) pNil))))))))) (pBin fMod (pCall fInt (pCons (pBin fDiv (pV 0) (pC (.int 9))) pNil)) (pC (.int 8)))))
def f_law_size : List D → Rs D := runF 1 p_law_size
/-- _law_ball(_law_numbers_here, _law_at, _law_width, _law_height, _law_name) : 0 _law_numbers_here, 1 _law_at, 2 _law_width, 3 _law_height, 4 _law_name, 5 _law_dx, 6 _law_dy, 7 _law_x, 8 _law_y -/
def p_law_ball : Ev → Fl :=
  (pSeq (pAsg (gTp (gsCons (gN 5) (gsCons (gN 6) gsNil))) (pBin fIx (pLst (pCons (pTup (pCons (pC (.int 1)) (pCons (pC (.int 1)) pNil))) (pCons (pTup (pCons (pC (.int 1)) (pCons (pUn fNeg (pC (.int 1))) pNil))) (pCons (pTup (pCons (pUn fNeg (pC (.int 1))) (pCons (pC (.int 1)) pNil))) (pCons (pTup (pCons (pUn fNeg (pC (.int 1))) (pCons (pUn fNeg (pC (.int 1))) pNil))) (pCons (pTup (pCons (pC (.int 1)) (pCons (pC (.int 0)) pNil))) (pCons (pTup (pCons (pC (.int 0)) (pCons (pUn fNeg (pC (.int 1))) pNil))) (pCons (pTup (pCons (pUn fNeg (pC (.int 1))) (pCons (pC (.int 0)) pNil))) (pCons (pTup (pCons (pC (.int 0)) (pCons (pC (.int 1)) pNil))) pNil))))))))) (pBin fMod (pCall fInt (pCons (pBin fIx (pV 0) (pV 1)) pNil)) (pC (.int 8)))))
  (pSeq (pSet 7 (pBin fMod (pCall fInt (pCons (pBin fIx (pV 0) (pBin fAdd (pV 1) (pC (.int 1)))) pNil)) (pBin fAdd (pV 2) (pC (.int 1)))))
  (pSeq (pSet 8 (pBin fMod (pCall fInt (pCons (pBin fIx (pV 0) (pBin fAdd (pV 1) (pC (.int 2)))) pNil)) (pBin fAdd (pV 3) (pC (.int 1)))))
  (pSeq (pIfS (pB (pBin fEq (pBin fMod (pCall fInt (pCons (pBin fIx (pV 0) (pBin fAdd (pV 1) (pC (.int 3)))) pNil)) (pC (.int 4))) (pC (.int 1))))
    (pSet 7 (pBin fIx (pLst (pCons (pC (.int 0)) (pCons (pV 2) pNil))) (pBin fMod (pCall fInt (pCons (pBin fIx (pV 0) (pBin fAdd (pV 1) (pC (.int 1)))) pNil)) (pC (.int 2)))))
    pNext)
  (pSeq (pIfS (pB (pBin fEq (pBin fMod (pCall fInt (pCons (pBin fIx (pV 0) (pBin fAdd (pV 1) (pC (.int 3)))) pNil)) (pC (.int 4))) (pC (.int 2))))
    (pSet 8 (pBin fIx (pLst (pCons (pC (.int 0)) (pCons (pV 3) pNil))) (pBin fMod (pCall fInt (pCons (pBin fIx (pV 0) (pBin fAdd (pV 1) (pC (.int 2)))) pNil)) (pC (.int 2)))))
    pNext)
  (pRet (pTup (pCons (pV 4) (pCons (pV 7) (pCons (pV 8) (pCons (pV 5) (pCons (pV 6) (pCons (pBin fMod (pCall fInt (pCons (pBin fDiv (pBin fIx (pV 0) (pBin fAdd (pV 1) (pC (.int 3)))) (pC (.int 4))) pNil)) (pC (.int 9))) pNil)))))))))))))
def f_law_ball : List D → Rs D := runF 9 p_law_ball
/-- _law_turned(_law_size_here, _law_place, _law_step) : 0 _law_size_here, 1 _law_place, 2 _law_step -/
def p_law_turned : Ev → Fl :=
  (pSeq (pIfS (pOr (pB (pBin fLt (pBin fAdd (pV 1) (pV 2)) (pC (.int 0)))) (pB (pBin fGt (pBin fAdd (pV 1) (pV 2)) (pV 0))))
    (pRet (pUn fNeg (pV 2)))
    pNext)
  (pRet (pV 2)))
def f_law_turned : List D → Rs D := runF 3 p_law_turned
/-- _law_walk(_law_width, _law_height, _law_ball_here, _law_many) : 0 _law_width, 1 _law_height, 2 _law_ball_here, 3 _law_many, 4 _law_name, 5 _law_x, 6 _law_y, 7 _law_dx, 8 _law_dy, 9 _law_minute, 10 _law_rows, 11 _law_k -/
def l_law_walk_0 : Ev → Fl :=
  (pSeq (pSet 7 (pFn (arity 3 f_law_turned) [] (pCons (pV 0) (pCons (pV 5) (pCons (pV 7) pNil)))))
  (pSeq (pSet 8 (pFn (arity 3 f_law_turned) [] (pCons (pV 1) (pCons (pV 6) (pCons (pV 8) pNil)))))
  (pSeq (pApp 10 (pTup (pCons (pV 5) (pCons (pV 6) (pCons (pV 7) (pCons (pV 8) pNil))))))
  (pSeq (pSet 5 (pBin fAdd (pV 5) (pV 7)))
  (pSet 6 (pBin fAdd (pV 6) (pV 8)))))))
def p_law_walk : Ev → Fl :=
  (pSeq (pAsg (gTp (gsCons (gN 4) (gsCons (gN 5) (gsCons (gN 6) (gsCons (gN 7) (gsCons (gN 8) (gsCons (gN 9) gsNil))))))) (pV 2))
  (pSeq (pSetO 10 (pLst pNil))
  (pSeq (pFor (pRg1 (pCons (pV 3) pNil)) (gN 11) l_law_walk_0)
  (pFrz 10 (pRet (pV 10))))))
def f_law_walk : List D → Rs D := runF 12 p_law_walk
/-- _law_great(_law_numbers_here, _law_at) : 0 _law_numbers_here, 1 _law_at, 2 _law_total, 3 _law_k -/
def l_law_great_0 : Ev → Fl :=
  (pSet 2 (pBin fAdd (pBin fMul (pV 2) (pC (.int 10007))) (pBin fIx (pV 0) (pBin fAdd (pBin fAdd (pV 1) (pC (.int 1))) (pV 3)))))
def p_law_great : Ev → Fl :=
  (pSeq (pSet 2 (pC (.int 0)))
  (pSeq (pFor (pRg1 (pCons (pBin fAdd (pC (.int 1)) (pBin fMod (pCall fInt (pCons (pBin fIx (pV 0) (pV 1)) pNil)) (pC (.int 9)))) pNil)) (gN 3) l_law_great_0)
  (pRet (pCall fMin2 (pCons (pBin fPow (pC (.int 10)) (pC (.int 30))) (pCons (pBin fAdd (pC (.int 1)) (pV 2)) pNil))))))
def f_law_great : List D → Rs D := runF 4 p_law_great
/-- _law_greater(_law_numbers_here, _law_at, _law_width, _law_height, _law_name) : 0 _law_numbers_here, 1 _law_at, 2 _law_width, 3 _law_height, 4 _law_name, 5 _law_dx, 6 _law_dy, 7 _law_x, 8 _law_y, 9 _law_most, 10 _law_k -/
def l_law_greater_0 : Ev → Fl :=
  (pSet 9 (pBin fMul (pV 9) (pC (.int 10))))
def p_law_greater : Ev → Fl :=
  (pSeq (pAsg (gTp (gsCons (gN 5) (gsCons (gN 6) gsNil))) (pBin fIx (pLst (pCons (pTup (pCons (pC (.int 1)) (pCons (pC (.int 1)) pNil))) (pCons (pTup (pCons (pC (.int 1)) (pCons (pUn fNeg (pC (.int 1))) pNil))) (pCons (pTup (pCons (pUn fNeg (pC (.int 1))) (pCons (pC (.int 1)) pNil))) (pCons (pTup (pCons (pUn fNeg (pC (.int 1))) (pCons (pUn fNeg (pC (.int 1))) pNil))) (pCons (pTup (pCons (pC (.int 1)) (pCons (pC (.int 0)) pNil))) (pCons (pTup (pCons (pC (.int 0)) (pCons (pUn fNeg (pC (.int 1))) pNil))) (pCons (pTup (pCons (pUn fNeg (pC (.int 1))) (pCons (pC (.int 0)) pNil))) (pCons (pTup (pCons (pC (.int 0)) (pCons (pC (.int 1)) pNil))) pNil))))))))) (pBin fMod (pCall fInt (pCons (pBin fIx (pV 0) (pV 1)) pNil)) (pC (.int 8)))))
  (pSeq (pSet 7 (pBin fMod (pCall fInt (pCons (pFn (arity 2 f_law_great) [] (pCons (pV 0) (pCons (pBin fAdd (pV 1) (pC (.int 1))) pNil))) pNil)) (pBin fAdd (pV 2) (pC (.int 1)))))
  (pSeq (pSet 8 (pBin fMod (pCall fInt (pCons (pFn (arity 2 f_law_great) [] (pCons (pV 0) (pCons (pBin fAdd (pV 1) (pC (.int 11))) pNil))) pNil)) (pBin fAdd (pV 3) (pC (.int 1)))))
  (pSeq (pSet 9 (pC (.int 1)))
  (pSeq (pFor (pRg1 (pCons (pBin fMod (pCall fInt (pCons (pBin fIx (pV 0) (pBin fAdd (pV 1) (pC (.int 31)))) pNil)) (pC (.int 30))) pNil)) (gN 10) l_law_greater_0)
  (pRet (pTup (pCons (pV 4) (pCons (pV 7) (pCons (pV 8) (pCons (pV 5) (pCons (pV 6) (pCons (pBin fMod (pCall fInt (pCons (pFn (arity 2 f_law_great) [] (pCons (pV 0) (pCons (pBin fAdd (pV 1) (pC (.int 21))) pNil))) pNil)) (pV 9)) pNil)))))))))))))
def f_law_greater : List D → Rs D := runF 11 p_law_greater
/-- _law_part(_law_size_here, _law_place, _law_step, _law_passed) : 0 _law_size_here, 1 _law_place, 2 _law_step, 3 _law_passed, 4 _law_total, 5 _law_rounds, 6 _law_rest -/
def p_law_part : Ev → Fl :=
  (pSeq (pSet 4 (pBin fAdd (pV 1) (pBin fMul (pV 2) (pV 3))))
  (pSeq (pSet 5 (pBin fDiv (pV 4) (pV 0)))
  (pSeq (pSet 6 (pBin fSub (pV 4) (pBin fMul (pV 5) (pV 0))))
  (pSeq (pIfS (pB (pBin fEq (pBin fMod (pCall fInt (pCons (pV 5) pNil)) (pC (.int 2))) (pC (.int 1))))
    (pSet 6 (pBin fSub (pV 0) (pV 6)))
    pNext)
  (pRet (pV 6))))))
def f_law_part : List D → Rs D := runF 7 p_law_part
/-- _law_where(_law_width, _law_height, _law_ball_here, _law_minute) : 0 _law_width, 1 _law_height, 2 _law_ball_here, 3 _law_minute, 4 _law_name, 5 _law_x, 6 _law_y, 7 _law_dx, 8 _law_dy, 9 _law_start -/
def p_law_where : Ev → Fl :=
  (pSeq (pAsg (gTp (gsCons (gN 4) (gsCons (gN 5) (gsCons (gN 6) (gsCons (gN 7) (gsCons (gN 8) (gsCons (gN 9) gsNil))))))) (pV 2))
  (pRet (pTup (pCons (pFn (arity 4 f_law_part) [] (pCons (pV 0) (pCons (pV 5) (pCons (pV 7) (pCons (pBin fSub (pV 3) (pV 9)) pNil))))) (pCons (pFn (arity 4 f_law_part) [] (pCons (pV 1) (pCons (pV 6) (pCons (pV 8) (pCons (pBin fSub (pV 3) (pV 9)) pNil))))) pNil)))))
def f_law_where : List D → Rs D := runF 10 p_law_where
/-- _law_are_parts(_law_actual, _law_due) : 0 _law_actual, 1 _law_due, 2 _law_part_here -/
def e_law_are_parts_0 : Ev → Rs D :=
  (pFn (arity 1 f_law_is_integer) [] (pCons (pV 2) pNil))
def p_law_are_parts : Ev → Fl :=
  (pRet (pAndV (pIsi "tuple" (pV 0)) (pAndV (pBin fEq (pV 0) (pV 1)) (pCall fAll (pCons (pLc (pIter (pV 0)) (gN 2) pYes e_law_are_parts_0 [2]) pNil)))))
def f_law_are_parts : List D → Rs D := runF 3 p_law_are_parts
/-- law(_law_script) : 0 _law_script, 1 _law_numbers_here, 2 _law_width, 3 _law_height, 4 _law_table, 5 _law_ball_here, 6 _law_rows, 7 _law_far, 8 _law_k, 9 _law_minute, 10 _law_place, 11 _law_later -/
def l_law_0 : Ev → Fl :=
  (pSeq (pSet 9 (pBin fAdd (pBin fAdd (pBin fIx (pV 5) (pC (.int 5))) (pV 8)) (pBin fMul (pV 7) (pBin fMod (pCall fInt (pCons (pBin fIx (pV 1) (pBin fAdd (pC (.int 30)) (pV 8))) pNil)) (pC (.int 2))))))
  (pSeq (pIfS (pNot (pTr (pFn (arity 2 f_law_are_parts) [] (pCons (pFn (arity 3 f_place_at) [] (pCons (pV 4) (pCons (pV 5) (pCons (pV 9) pNil)))) (pCons (pSl fSl (pBin fIx (pV 6) (pV 8)) pNo (pPart (pC (.int 2)))) pNil)))))
    (pRet (pC (.bl false)))
    pNext)
  (pIfS (pNot (pTr (pFn (arity 2 f_law_are_parts) [] (pCons (pFn (arity 3 f_heading_at) [] (pCons (pV 4) (pCons (pV 5) (pCons (pV 9) pNil)))) (pCons (pSl fSl (pBin fIx (pV 6) (pV 8)) (pPart (pC (.int 2))) pNo) pNil)))))
    (pRet (pC (.bl false)))
    pNext)))
def q9_law_0 : Ev → Fl :=
  (pSeq (pSet 2 (pFn (arity 2 f_law_great) [] (pCons (pV 1) (pCons (pC (.int 72)) pNil))))
  (pSeq (pSet 3 (pFn (arity 2 f_law_great) [] (pCons (pV 1) (pCons (pC (.int 82)) pNil))))
  (pSeq (pSet 5 (pFn (arity 5 f_law_greater) [] (pCons (pV 1) (pCons (pC (.int 92)) (pCons (pV 2) (pCons (pV 3) (pCons (pC (.str "b")) pNil)))))))
  (pSeq (pSet 9 (pBin fSub (pBin fAdd (pBin fIx (pV 5) (pC (.int 5))) (pFn (arity 2 f_law_great) [] (pCons (pV 1) (pCons (pC (.int 130)) pNil)))) (pC (.int 1))))
  (pSeq (pSet 10 (pFn (arity 4 f_law_where) [] (pCons (pV 2) (pCons (pV 3) (pCons (pV 5) (pCons (pV 9) pNil))))))
  (pSeq (pSet 11 (pFn (arity 4 f_law_where) [] (pCons (pV 2) (pCons (pV 3) (pCons (pV 5) (pCons (pBin fAdd (pV 9) (pC (.int 1))) pNil))))))
  (pSeq (pIfS (pNot (pTr (pFn (arity 2 f_law_are_parts) [] (pCons (pFn (arity 3 f_heading_at) [] (pCons (pFn (arity 3 (anyX f_Table_init)) [.tup []] (pCons (pV 2) (pCons (pV 3) pNil))) (pCons (pV 5) (pCons (pV 9) pNil)))) (pCons (pTup (pCons (pBin fSub (pBin fIx (pV 11) (pC (.int 0))) (pBin fIx (pV 10) (pC (.int 0)))) (pCons (pBin fSub (pBin fIx (pV 11) (pC (.int 1))) (pBin fIx (pV 10) (pC (.int 1)))) pNil))) pNil)))))
    (pRet (pC (.bl false)))
    pNext)
  (pRet (pFn (arity 2 f_law_are_parts) [] (pCons (pFn (arity 3 f_place_at) [] (pCons (pFn (arity 3 (anyX f_Table_init)) [.tup []] (pCons (pV 2) (pCons (pV 3) pNil))) (pCons (pV 5) (pCons (pV 9) pNil)))) (pCons (pV 10) pNil)))))))))))
def q7_law_0 : Ev → Fl :=
  (pSeq (pFor (pRg1 (pCons (pC (.int 40)) pNil)) (gN 8) l_law_0)
  (pSeq (pIfS (pAnd (pB (pBin fGt (pBin fIx (pV 5) (pC (.int 5))) (pC (.int 0)))) (pOr (pB (pBin fIsNot (pFn (arity 3 f_place_at) [] (pCons (pV 4) (pCons (pV 5) (pCons (pBin fSub (pBin fIx (pV 5) (pC (.int 5))) (pC (.int 1))) pNil)))) (pC .non))) (pB (pBin fIsNot (pFn (arity 3 f_heading_at) [] (pCons (pV 4) (pCons (pV 5) (pCons (pC (.int 0)) pNil)))) (pC .non)))))
    (pRet (pC (.bl false)))
    pNext)
  q9_law_0))
def p_law : Ev → Fl :=
  (pSeq (pSet 1 (pFn (arity 2 f_law_numbers) [] (pCons (pV 0) (pCons (pC (.int 160)) pNil))))
  (pSeq (pSet 2 (pFn (arity 1 f_law_size) [] (pCons (pBin fIx (pV 1) (pC (.int 0))) pNil)))
  (pSeq (pSet 3 (pFn (arity 1 f_law_size) [] (pCons (pBin fIx (pV 1) (pC (.int 1))) pNil)))
  (pSeq (pSet 4 (pFn (arity 3 (anyX f_Table_init)) [.tup []] (pCons (pV 2) (pCons (pV 3) pNil))))
  (pSeq (pSet 5 (pFn (arity 5 f_law_ball) [] (pCons (pV 1) (pCons (pC (.int 2)) (pCons (pV 2) (pCons (pV 3) (pCons (pC (.str "b")) pNil)))))))
  (pSeq (pSet 6 (pFn (arity 4 f_law_walk) [] (pCons (pV 2) (pCons (pV 3) (pCons (pV 5) (pCons (pC (.int 40)) pNil))))))
  (pSeq (pSet 7 (pBin fMul (pBin fMul (pBin fMul (pBin fMul (pC (.int 2)) (pV 2)) (pC (.int 2))) (pV 3)) (pFn (arity 2 f_law_great) [] (pCons (pV 1) (pCons (pC (.int 10)) pNil)))))
  q7_law_0)))))))
def f_law : List D → Rs D := runF 12 p_law
end DL
end
end

section
set_option linter.all false
set_option maxRecDepth 100000
set_option maxHeartbeats 4000000
set_option exponentiation.threshold 2000
namespace DL
open PySem L2
local macro_rules | `(tactic| walk_at "dl") => `(tactic| simp [pSeq, pSet, pSetO, pWith, pBin, pV, pVo, pC, pCall, pCons, pNil, pTup, pLst, pUn, pIf, pIfS, pRet, pDrop, pAsg, pPar, pAug, pApp, pFrz, frzE, pB, pTr, pNot, pAnd, pOr, pAndV, pOrV, pNotV, pNotT, pChain, pNext, pFn, arity, pIter, pFor, pRg1, pRg2, pSl, pNo, pPart, pWhile, fuelI, pIsi, pIsiT, tyN, isiOk, isiB, isiAny, pLc, pYes, lcL, wipeE, pMeth, qStm, qFld, qPut, qKeep, qRest, pEnum2, enumOf, enumD, sz_eq, *])
abbrev tab (w h : Int) : D := .ins "Table" ["width", "height", "pockets"] [.int w, .int h, .tup []]
@[simp] theorem tab_w {w h : Int} : fFld "Table" "width" (tab w h) = .ok (.int w) := rfl
@[simp] theorem tab_h {w h : Int} : fFld "Table" "height" (tab w h) = .ok (.int h) := rfl
@[simp] theorem tab_p {w h : Int} : fFld "Table" "pockets" (tab w h) = .ok (.tup []) := rfl
theorem require_t : f_require [.bl true] = .ok .non := by
  unfold f_require runF p_require
  walk_at "dl"
theorem table_made (w h : Int) (hw : 1 ≤ w) (hw2 : w ≤ 1000000000000000000000000000000) (hh : 1 ≤ h) (hh2 : h ≤ 1000000000000000000000000000000) : anyX f_Table_init [.int w, .int h, .tup []] = .ok (tab w h) := by
  apply anyX_eq
  intro x
  have rt := require_t
  have d1 : ¬ ("width" : Str) = "height" := by decide
  have d2 : ¬ ("width" : Str) = "pockets" := by decide
  have d3 : ¬ ("height" : Str) = "pockets" := by decide
  have d4 : ¬ ("height" : Str) = "width" := by decide
  have d5 : ¬ ("pockets" : Str) = "height" := by decide
  have d6 : ¬ ("pockets" : Str) = "width" := by decide
  have a1 : fAll [.lst []] = .ok (.bl true) := rfl
  have fp : fFld "Table" "pockets" (.ins "Table" ["width", "height", "pockets"] [.int w, .int h, .tup []]) = .ok (.tup []) := rfl
  unfold f_Table_init runI p_Table_init r_Table_init_0
  walk_at "dl"
theorem is_point_ok (w h x y : Int) (hx : 0 ≤ x) (hx2 : x ≤ w) (hy : 0 ≤ y) (hy2 : y ≤ h) : f_Table_is_point [tab w h, .tup [.int x, .int y]] = .ok (.bl true) := by
  have e1 := @tab_w w h
  have e2 := @tab_h w h
  unfold f_Table_is_point runF p_Table_is_point
  walk_at "dl"
theorem is_name_b : f_is_name [.str "b"] = .ok (.bl true) := by
  have h1 : fIx (.str "b") (.int 0) = .ok (.str "b") := by rfl
  have h2 : fIn false (.str "b") (.str "0123456789") = .ok (.bl false) := by
    show Rs.ok (D.bl (false ^^ strIn "b" "0123456789")) = _
    rw [show strIn "b" "0123456789" = false by decide +kernel]; rfl
  have h3 : fIn false (.str "b") c_NAME_CHARS = .ok (.bl true) := by
    show Rs.ok (D.bl (false ^^ strIn "b" "abcdefghijklmnopqrstuvwxyz0123456789")) = _
    rw [show strIn "b" "abcdefghijklmnopqrstuvwxyz0123456789" = true by decide +kernel]; rfl
  have h4 : fLen [.str "b"] = .ok (.int 1) := by rfl
  have h5 : iterD (.str "b") = some [.str "b"] := by rfl
  have h6 : fAll [.lst [.bl true]] = .ok (.bl true) := by rfl
  have c0 : ∀ x, e_is_name_0 [x, .dat (.str "b")] = .ok (.bl true) := fun x => by
    unfold e_is_name_0
    simp only [pBin, pV, pC]
    simp [h3]
  unfold f_is_name runF p_is_name
  walk_at "dl"
abbrev bal (x y dx dy m : Int) : D := .tup [.str "b", .int x, .int y, .int dx, .int dy, .int m]
theorem in3 (d : Int) (h : d = -1 ∨ d = 0 ∨ d = 1) : fIn false (.int d) (.tup [.int (-1), .int 0, .int 1]) = .ok (.bl true) := by
  rcases h with rfl | rfl | rfl <;> rfl
theorem ne00 (a b : Int) (ha : a = -1 ∨ a = 0 ∨ a = 1) (hb : b = -1 ∨ b = 0 ∨ b = 1) (h : ¬ (a = 0 ∧ b = 0)) : fNe (.tup [.int a, .int b]) (.tup [.int 0, .int 0]) = .ok (.bl true) := by
  rcases ha with rfl | rfl | rfl <;> rcases hb with rfl | rfl | rfl <;> first | exact absurd ⟨rfl, rfl⟩ h | rfl
theorem is_ball_ok (w h x y dx dy m : Int) (hx : 0 ≤ x) (hx2 : x ≤ w) (hy : 0 ≤ y) (hy2 : y ≤ h) (hdx : dx = -1 ∨ dx = 0 ∨ dx = 1) (hdy : dy = -1 ∨ dy = 0 ∨ dy = 1) (hd : ¬ (dx = 0 ∧ dy = 0)) (hm : 0 ≤ m) (hm2 : m ≤ 1000000000000000000000000000000) :
    f_is_ball [tab w h, bal x y dx dy m] = .ok (.bl true) := by
  have e1 := is_point_ok w h x y hx hx2 hy hy2
  have e2 := is_name_b
  have e3 := in3 dx hdx
  have e4 := in3 dy hdy
  have e5 := ne00 dx dy hdx hdy hd
  have i0 : fIx (bal x y dx dy m) (.int 0) = .ok (.str "b") := rfl
  have d1 : ¬ ("is_point" : Str) = "height" := by decide
  have d2 : ¬ ("is_point" : Str) = "pockets" := by decide
  have d3 : ¬ ("is_point" : Str) = "width" := by decide
  clear hx hx2 hy hy2 hdx hdy hd
  unfold f_is_ball runF p_is_ball
  walk_at "dl"
theorem check_ok (t b : D) (h : f_is_ball [t, b] = .ok (.bl true)) : f_check_ball [t, b] = .ok .non := by
  unfold f_check_ball runF p_check_ball
  walk_at "dl"
/-- the phase, the place, the step, as the program reckons them -/
def phM (s x d : Int) : Int := if d = 1 then x else -x % (2 * s)
def foM (s p : Int) : Int := if 2 * s - p % (2 * s) < p % (2 * s) then 2 * s - p % (2 * s) else p % (2 * s)
def paM (s x d t : Int) : Int := if d = 0 then x else foM s (phM s x d + t)
def stM (s x d t : Int) : Int := if d = 0 then 0 else if (phM s x d + t) % (2 * s) < s then 1 else -1
theorem phase_is (s x d : Int) (hs : 0 < s) : f_phase_of [.int s, .int x, .int d] = .ok (.int (phM s x d)) := by
  have m : fMul (.int 2) (.int s) = .ok (.int (2 * s)) := fMul_l (by decide)
  have md := @fMod_ok (-x) (2 * s) (by omega)
  unfold f_phase_of runF p_phase_of phM
  by_cases h : d = 1
  · walk_at "dl"
  · walk_at "dl"
theorem fold_is (s p : Int) (hs : 0 < s) : f_fold [.int s, .int p] = .ok (.int (foM s p)) := by
  have m : fMul (.int 2) (.int s) = .ok (.int (2 * s)) := fMul_l (by decide)
  have md := @fMod_ok p (2 * s) (by omega)
  unfold f_fold runF p_fold foM
  walk_at "dl"
theorem part_is (s x d t : Int) (hs : 0 < s) : f_part_at [.int s, .int x, .int d, .int t] = .ok (.int (paM s x d t)) := by
  have e1 := phase_is s x d hs
  have e2 := fold_is s (phM s x d + t) hs
  unfold f_part_at runF p_part_at paM
  by_cases h : d = 0
  · walk_at "dl"
  · walk_at "dl"
theorem step_is (s x d t : Int) (hs : 0 < s) : f_step_at [.int s, .int x, .int d, .int t] = .ok (.int (stM s x d t)) := by
  have e1 := phase_is s x d hs
  have m : fMul (.int 2) (.int s) = .ok (.int (2 * s)) := fMul_l (by decide)
  have md := @fMod_ok (phM s x d + t) (2 * s) (by omega)
  unfold f_step_at runF p_step_at stM
  by_cases h : d = 0
  · walk_at "dl"
  · by_cases h2 : (phM s x d + t) % (2 * s) < s
    · walk_at "dl"
    · walk_at "dl"
theorem parts_is (w h x y dx dy m : Int) : f_parts_of [tab w h, bal x y dx dy m] = .ok (.tup [.tup [.int w, .int x, .int dx], .tup [.int h, .int y, .int dy]]) := by
  have e1 := @tab_w w h
  have e2 := @tab_h w h
  have i1 : fIx (bal x y dx dy m) (.int 1) = .ok (.int x) := rfl
  have i2 : fIx (bal x y dx dy m) (.int 2) = .ok (.int y) := rfl
  have i3 : fIx (bal x y dx dy m) (.int 3) = .ok (.int dx) := rfl
  have i4 : fIx (bal x y dx dy m) (.int 4) = .ok (.int dy) := rfl
  unfold f_parts_of runF p_parts_of
  walk_at "dl"
theorem place_is (w h x y dx dy m t : Int) (hw : 0 < w) (hh : 0 < h) (hb : f_is_ball [tab w h, bal x y dx dy m] = .ok (.bl true)) (ht : m ≤ t) :
    f_place_at [tab w h, bal x y dx dy m, .int t] = .ok (.tup [.int (paM w x dx (t - m)), .int (paM h y dy (t - m))]) := by
  have e1 := check_ok _ _ hb
  have e2 := parts_is w h x y dx dy m
  have e3 := part_is w x dx (t - m) hw
  have e4 := part_is h y dy (t - m) hh
  have i5 : fIx (bal x y dx dy m) (.int 5) = .ok (.int m) := rfl
  have nt : ¬ t < m := by omega
  generalize bal x y dx dy m = b at *
  generalize tab w h = T at *
  have c1 : e_place_at_0 [.dat T, .dat b, .dat (.int t), .dat (.int w), .dat (.int x), .dat (.int dx)] = .ok (.int (paM w x dx (t - m))) := by
    unfold e_place_at_0
    walk_at "dl"
  have c2 : e_place_at_0 [.dat T, .dat b, .dat (.int t), .dat (.int h), .dat (.int y), .dat (.int dy)] = .ok (.int (paM h y dy (t - m))) := by
    unfold e_place_at_0
    walk_at "dl"
  unfold f_place_at runF p_place_at
  walk_at "dl"
theorem heading_is (w h x y dx dy m t : Int) (hw : 0 < w) (hh : 0 < h) (hb : f_is_ball [tab w h, bal x y dx dy m] = .ok (.bl true)) (ht : m ≤ t) :
    f_heading_at [tab w h, bal x y dx dy m, .int t] = .ok (.tup [.int (stM w x dx (t - m)), .int (stM h y dy (t - m))]) := by
  have e1 := check_ok _ _ hb
  have e2 := parts_is w h x y dx dy m
  have e3 := step_is w x dx (t - m) hw
  have e4 := step_is h y dy (t - m) hh
  have i5 : fIx (bal x y dx dy m) (.int 5) = .ok (.int m) := rfl
  have nt : ¬ t < m := by omega
  generalize bal x y dx dy m = b at *
  generalize tab w h = T at *
  have c1 : e_heading_at_0 [.dat T, .dat b, .dat (.int t), .dat (.int w), .dat (.int x), .dat (.int dx)] = .ok (.int (stM w x dx (t - m))) := by
    unfold e_heading_at_0
    walk_at "dl"
  have c2 : e_heading_at_0 [.dat T, .dat b, .dat (.int t), .dat (.int h), .dat (.int y), .dat (.int dy)] = .ok (.int (stM h y dy (t - m))) := by
    unfold e_heading_at_0
    walk_at "dl"
  unfold f_heading_at runF p_heading_at
  walk_at "dl"
theorem early (w h x y dx dy m t : Int) (hb : f_is_ball [tab w h, bal x y dx dy m] = .ok (.bl true)) (ht : t < m) :
    f_place_at [tab w h, bal x y dx dy m, .int t] = .ok .non ∧ f_heading_at [tab w h, bal x y dx dy m, .int t] = .ok .non := by
  have e1 := check_ok _ _ hb
  have i5 : fIx (bal x y dx dy m) (.int 5) = .ok (.int m) := rfl
  generalize bal x y dx dy m = b at *
  generalize tab w h = T at *
  constructor
  · unfold f_place_at runF p_place_at
    walk_at "dl"
  · unfold f_heading_at runF p_heading_at
    walk_at "dl"
end DL
end

section
set_option linter.all false
set_option maxRecDepth 100000
set_option maxHeartbeats 4000000
set_option exponentiation.threshold 2000
namespace DL
open PySem L2
local macro_rules | `(tactic| walk_at "dl") => `(tactic| simp [pSeq, pSet, pSetO, pWith, pBin, pV, pVo, pC, pCall, pCons, pNil, pTup, pLst, pUn, pIf, pIfS, pRet, pDrop, pAsg, pPar, pAug, pApp, pFrz, frzE, pB, pTr, pNot, pAnd, pOr, pAndV, pOrV, pNotV, pChain, pNext, pFn, arity, pIter, pFor, pRg1, pRg2, pSl, pNo, pPart, pWhile, fuelI, *])
abbrev dI (L : List Int) : List D := L.map .int
/-- what is drawn -/
def Dr (L : List Int) : Prop := ∀ y ∈ L, 0 ≤ y ∧ y < 1009
theorem Dr.nil : Dr [] := fun y h => by simp at h
theorem Dr.snoc {L : List Int} (h : Dr L) {z : Int} (h0 : 0 ≤ z) (h1 : z < 1009) : Dr (L ++ [z]) := fun y hy => by
  rcases List.mem_append.mp hy with q | q
  · exact h y q
  · rw [List.mem_singleton.mp q]; exact ⟨h0, h1⟩
theorem dI_snoc (L : List Int) (z : Int) : dI (L ++ [z]) = dI L ++ [.int z] := by simp [dI]
theorem dI_len (L : List Int) : (dI L).length = L.length := by simp [dI]
theorem row_body (c m : Int) (acc : List Int) (rest mixed k : Int) (hl : acc.length < 10000) : ∃ z rest' mixed' : Int, 0 ≤ z ∧ z < 1009 ∧
    l_law_row_0 [.dat (.int c), .dat (.int m), .own (.lst (dI acc)), .dat (.int rest), .dat (.int mixed), .dat (.int k)] = .nx [.dat (.int c), .dat (.int m), .own (.lst (dI (acc ++ [z]))), .dat (.int rest'), .dat (.int mixed'), .dat (.int k)] := by
  have hsz : acc.length < sizeLine := by rw [sizeLine_eq]; omega
  have m1 : fMul (.int mixed) (.int 16807) = .ok (.int (mixed * 16807)) := fMul_r (by decide)
  have m2 : fMul (.int 271) (.int (k + 3)) = .ok (.int (271 * (k + 3))) := fMul_l (by decide)
  by_cases hc : (1000000000000000000 : Int) ≤ (if c < 0 then -c else c)
  · refine ⟨rest % 1009, rest / 1009, (mixed * 16807 + 271 * (k + 3)) % 2147483629, Int.emod_nonneg _ (by decide), Int.emod_lt_of_pos _ (by decide), ?_⟩
    unfold l_law_row_0
    walk_at "dl"
  · refine ⟨((mixed * 16807 + 271 * (k + 3)) % 2147483629 / 7) % 1009, rest, (mixed * 16807 + 271 * (k + 3)) % 2147483629, Int.emod_nonneg _ (by decide), Int.emod_lt_of_pos _ (by decide), ?_⟩
    unfold l_law_row_0
    walk_at "dl"
theorem row_loop (c m : Int) : ∀ (ks : List D) (acc : List Int) (rest mixed : Int) (x : EV), (∀ d ∈ ks, ∃ k, d = .int k) → acc.length + ks.length < 10000 → Dr acc →
    ∃ (acc' : List Int) (rest' mixed' : Int) (x' : EV), acc'.length = acc.length + ks.length ∧ Dr acc' ∧
      forL (gN 5) l_law_row_0 ks [.dat (.int c), .dat (.int m), .own (.lst (dI acc)), .dat (.int rest), .dat (.int mixed), x] = .nx [.dat (.int c), .dat (.int m), .own (.lst (dI acc')), .dat (.int rest'), .dat (.int mixed'), x']
  | [], acc, rest, mixed, x, _, _, ha => ⟨acc, rest, mixed, x, by simp, ha, rfl⟩
  | d :: ks, acc, rest, mixed, x, hk, hl, ha => by
    obtain ⟨k, rfl⟩ := hk d List.mem_cons_self
    rw [List.length_cons] at hl
    obtain ⟨z, rest1, mixed1, h0, h1, hb⟩ := row_body c m acc rest mixed k (by omega)
    obtain ⟨acc', rest', mixed', x', q1, q2, q3⟩ := row_loop c m ks (acc ++ [z]) rest1 mixed1 (.dat (.int k)) (fun d hd => hk d (List.mem_cons_of_mem _ hd)) (by simp; omega) (ha.snoc h0 h1)
    exact ⟨acc', rest', mixed', x', by rw [q1]; simp; omega, q2, by rw [forL_step (ρ1 := [.dat (.int c), .dat (.int m), .own (.lst (dI acc)), .dat (.int rest), .dat (.int mixed), .dat (.int k)]) rfl hb]; exact q3⟩
theorem rgD_int {lo : Int} {n : Nat} : ∀ d ∈ rgD lo n, ∃ k, d = .int k := fun d h => by
  obtain ⟨i, _, rfl⟩ := List.mem_map.mp h
  exact ⟨_, rfl⟩
theorem rgD_len {lo : Int} {n : Nat} : (rgD lo n).length = n := by simp [rgD]
theorem rgOk_of {i : Int} (h : -1000000 ≤ i) (h2 : i ≤ 1000000) : rgOk i = true := by
  unfold rgOk
  rw [decide_eq_true (show -(2 ^ 62 : Int) ≤ i by omega), decide_eq_true (show i < (2 ^ 62 : Int) by omega)]; rfl
theorem law_row (c m : Int) (h0 : 0 ≤ m) (h1 : m < 9000) : ∃ L : List Int, (L.length : Int) = m ∧ Dr L ∧ f_law_row [.int c, .int m] = .ok (.lst (dI L)) := by
  obtain ⟨acc', rest', mixed', x', q1, q2, q3⟩ := row_loop c m (rgD 0 m.toNat) [] (if c < 0 then -c else c) (((if c < 0 then -c else c) * 48271 + 69621) % 2147483647) .unb rgD_int (by rw [rgD_len]; simp; omega) Dr.nil
  refine ⟨acc', by rw [q1, rgD_len]; simp; omega, q2, ?_⟩
  have m1 : fMul (.int (if c < 0 then -c else c)) (.int 48271) = .ok (.int ((if c < 0 then -c else c) * 48271)) := fMul_r (by decide)
  have hr : rgOk m = true := rgOk_of (by omega) (by omega)
  rw [show dI [] = [] from rfl] at q3
  unfold f_law_row runF p_law_row
  walk_at "dl"
theorem nums_body (s0 many each cells c z : D) (acc : List D) (hl : acc.length < 16777216) : l_law_numbers_0 [.dat s0, .dat many, .dat cells, .dat each, .own (.lst acc), .dat c, .dat z] = .nx [.dat s0, .dat many, .dat cells, .dat each, .own (.lst (acc ++ [z])), .dat c, .dat z] := by
  unfold l_law_numbers_0
  have hsz : acc.length < sizeLine := by rw [sizeLine_eq]; omega
  walk_at "dl"
theorem nums_in (s0 many each cells c : D) : ∀ (L : List Int) (acc : List Int) (x : EV), acc.length + L.length < 10000000 → ∃ x', forL (gN 6) l_law_numbers_0 (dI L) [.dat s0, .dat many, .dat cells, .dat each, .own (.lst (dI acc)), .dat c, x] = .nx [.dat s0, .dat many, .dat cells, .dat each, .own (.lst (dI (acc ++ L))), .dat c, x']
  | [], acc, x, _ => ⟨x, by rw [List.append_nil]; rfl⟩
  | z :: L, acc, x, hl => by
    rw [List.length_cons] at hl
    obtain ⟨x', h⟩ := nums_in s0 many each cells c L (acc ++ [z]) (.dat (.int z)) (by simp; omega)
    refine ⟨x', ?_⟩
    show forL _ _ (.int z :: dI L) _ = _
    rw [forL_step (ρ1 := [.dat s0, .dat many, .dat cells, .dat each, .own (.lst (dI acc)), .dat c, .dat (.int z)]) rfl (nums_body s0 many each cells c (.int z) (dI acc) (by rw [dI_len]; omega)), ← dI_snoc, h]
    simp
theorem nums_out (s0 many cells : D) (each : Int) (h0 : 0 ≤ each) (h1 : each < 9000) : ∀ (ns : List Int) (acc : List Int) (x y : EV), Dr acc → acc.length + ns.length * 9000 < 1000000 → ∃ acc' x' y', Dr acc' ∧ acc'.length ≤ acc.length + ns.length * 9000 ∧
    forL (gN 5) l_law_numbers_1 (dI ns) [.dat s0, .dat many, .dat cells, .dat (.int each), .own (.lst (dI acc)), x, y] = .nx [.dat s0, .dat many, .dat cells, .dat (.int each), .own (.lst (dI acc')), x', y']
  | [], acc, x, y, ha, _ => ⟨acc, x, y, ha, by simp, rfl⟩
  | c :: ns, acc, x, y, ha, hl => by
    rw [List.length_cons] at hl
    obtain ⟨L, l1, l2, l3⟩ := law_row c each h0 h1
    obtain ⟨y1, hy⟩ := nums_in s0 many (.int each) cells (.int c) L acc y (by omega)
    have hd : Dr (acc ++ L) := fun z hz => by
      rcases List.mem_append.mp hz with q | q
      · exact ha z q
      · exact l2 z q
    obtain ⟨acc', x', y', q1, q2, q3⟩ := nums_out s0 many cells each h0 h1 ns (acc ++ L) (.dat (.int c)) y1 hd (by simp; omega)
    refine ⟨acc', x', y', q1, by rw [List.length_append] at q2; rw [List.length_cons]; omega, ?_⟩
    show forL _ _ (.int c :: dI ns) _ = _
    rw [forL_step (ρ1 := [.dat s0, .dat many, .dat cells, .dat (.int each), .own (.lst (dI acc)), .dat (.int c), y]) rfl (ρ2 := [.dat s0, .dat many, .dat cells, .dat (.int each), .own (.lst (dI (acc ++ L))), .dat (.int c), y1])]
    · exact q3
    · unfold l_law_numbers_1
      walk_at "dl"
theorem nums_wh (s0 cells each : D) (many : Int) (x y : EV) (h1 : many < 9000) : ∀ (n : Nat) (acc : List Int), Dr acc → acc.length < 1000000 → many - acc.length < n → 0 < n → ∃ acc' : List Int, Dr acc' ∧ many ≤ acc'.length ∧ acc'.length < 2000000 ∧
    whL wc_law_numbers_0 w_law_numbers_0 n [.dat s0, .dat (.int many), .dat cells, .dat each, .own (.lst (dI acc)), x, y] = .nx [.dat s0, .dat (.int many), .dat cells, .dat each, .own (.lst (dI acc')), x, y]
  | 0, acc, ha, hl, hn, h0 => by omega
  | n + 1, acc, ha, hl, hn, _ => by
    by_cases hc : (acc.length : Int) < many
    · obtain ⟨acc', q1, q2, q3, q4⟩ := nums_wh s0 cells each many x y h1 n (acc ++ [0]) (ha.snoc (by decide) (by decide)) (by simp; omega) (by simp; omega) (by omega)
      refine ⟨acc', q1, q2, q3, ?_⟩
      have hsz : acc.length < sizeLine := by rw [sizeLine_eq]; omega
      rw [whL_step (ρ2 := [.dat s0, .dat (.int many), .dat cells, .dat each, .own (.lst (dI (acc ++ [0]))), x, y]), q4]
      · unfold wc_law_numbers_0; walk_at "dl"
      · unfold w_law_numbers_0; walk_at "dl"
    · refine ⟨acc, ha, by omega, by omega, ?_⟩
      rw [whL_end]
      unfold wc_law_numbers_0; walk_at "dl"
theorem law_numbers (ns : List Int) (many : Int) (h0 : 0 ≤ many) (h1 : many < 8000) (hn : ns.length ≤ 63) : ∃ L : List Int, (L.length : Int) = many ∧ Dr L ∧ f_law_numbers [.kl (dI ns), .int many] = .ok (.lst (dI L)) := by
  have hcut : cutD (dI ns) none (some 63) = dI ns := by
    have := cutD_take (dI ns) 63
    rw [show ((63 : Nat) : Int) = 63 from rfl] at this
    rw [this, List.take_of_length_le (by rw [dI_len]; exact hn)]
  have hmx : (0 : Int) < (if 1 < (ns.length : Int) then (ns.length : Int) else 1) := by split <;> omega
  have hmx2 : (if 1 < (ns.length : Int) then (ns.length : Int) else 1) < 10 ^ 200 := by
    have e : (1000 : Int) < 10 ^ 200 := by decide
    split <;> omega
  have hdv := fDiv_ok (i := many) hmx hmx2
  have e0 : 0 ≤ many / (if 1 < (ns.length : Int) then (ns.length : Int) else 1) := Int.ediv_nonneg h0 (by omega)
  have e1 : many / (if 1 < (ns.length : Int) then (ns.length : Int) else 1) ≤ many := Int.ediv_le_self _ h0
  generalize hq : many / (if 1 < (ns.length : Int) then (ns.length : Int) else 1) = q at hdv e0 e1
  obtain ⟨acc', x', y', a1, a2, a3⟩ := nums_out (.kl (dI ns)) (.int many) (.lst (dI ns)) (1 + q) (by omega) (by omega) ns [] .unb .unb Dr.nil (by simp; omega)
  obtain ⟨acc2, b1, b2, b3, b4⟩ := nums_wh (.kl (dI ns)) (.lst (dI ns)) (.int (1 + q)) many x' y' (by omega) (many.natAbs + 1) acc' a1 (by simp at a2; omega) (by omega) (by omega)
  have hcut2 : cutD (dI acc2) none (some many) = dI (acc2.take many.toNat) := by
    have := cutD_take (dI acc2) many.toNat
    rw [show ((many.toNat : Nat) : Int) = many by omega] at this
    rw [this, dI, dI, List.map_take]
  refine ⟨acc2.take many.toNat, by rw [List.length_take]; omega, fun y hy => b1 y (List.mem_of_mem_take hy), ?_⟩
  rw [show dI [] = [] from rfl] at a3
  unfold f_law_numbers runF p_law_numbers
  have hsl : fSl (.kl (dI ns)) none (some 63) = .ok (.lst (dI ns)) := by
    show Rs.ok (D.lst (cutD (dI ns) none (some 63))) = _
    rw [hcut]
  have hsl2 : fSl (.lst (dI acc2)) none (some many) = .ok (.lst (dI (acc2.take many.toNat))) := by
    show Rs.ok (D.lst (cutD (dI acc2) none (some many))) = _
    rw [hcut2]
  walk_at "dl"
end DL
end

section
set_option linter.all false
set_option maxRecDepth 100000
set_option maxHeartbeats 4000000
set_option exponentiation.threshold 2000
namespace DL
open PySem L2
local macro_rules | `(tactic| walk_at "dl") => `(tactic| simp [pSeq, pSet, pSetO, pWith, pBin, pV, pVo, pC, pCall, pCons, pNil, pTup, pLst, pUn, pIf, pIfS, pRet, pDrop, pAsg, pPar, pAug, pApp, pFrz, frzE, pB, pTr, pNot, pAnd, pOr, pAndV, pOrV, pNotV, pNotT, pChain, pNext, pFn, arity, pIter, pFor, pRg1, pRg2, pSl, pNo, pPart, pWhile, fuelI, pIsi, pIsiT, tyN, isiOk, isiB, isiAny, pLc, pYes, wipeE, pMeth, qStm, qFld, qPut, qKeep, qRest, pEnum2, enumOf, enumD, sz_eq, *])
theorem law_size (z : Int) : ∃ s : Int, 1 ≤ s ∧ s ≤ 9 ∧ f_law_size [.int z] = .ok (.int s) := by
  have h8 : z / 9 % 8 = 0 ∨ z / 9 % 8 = 1 ∨ z / 9 % 8 = 2 ∨ z / 9 % 8 = 3 ∨ z / 9 % 8 = 4 ∨ z / 9 % 8 = 5 ∨ z / 9 % 8 = 6 ∨ z / 9 % 8 = 7 := by omega
  have key : ∀ (i s : Int), z / 9 % 8 = i → 0 ≤ i → ([.int (1 + z % 7), .int (1 + z % 4), .int 6, .int 4, .int (1 + z % 9), .int 2, .int 3, .int 1] : List D)[i.toNat]? = some (.int s) → f_law_size [.int z] = .ok (.int s) := fun i s hi h0 hs => by
    have ix := fIx_lst h0 hs
    unfold f_law_size runF p_law_size
    walk_at "dl"
  rcases h8 with h | h | h | h | h | h | h | h
  · exact ⟨_, by omega, by omega, key _ _ h (by decide) rfl⟩
  · exact ⟨_, by omega, by omega, key _ _ h (by decide) rfl⟩
  · exact ⟨6, by omega, by omega, key _ _ h (by decide) rfl⟩
  · exact ⟨4, by omega, by omega, key _ _ h (by decide) rfl⟩
  · exact ⟨_, by omega, by omega, key _ _ h (by decide) rfl⟩
  · exact ⟨2, by omega, by omega, key _ _ h (by decide) rfl⟩
  · exact ⟨3, by omega, by omega, key _ _ h (by decide) rfl⟩
  · exact ⟨1, by omega, by omega, key _ _ h (by decide) rfl⟩
/-- what the draws are -/
theorem ixL {L : List Int} {i : Int} (h0 : 0 ≤ i) (h : i < L.length) (hd : Dr L) : ∃ z, 0 ≤ z ∧ z < 1009 ∧ fIx (.lst (dI L)) (.int i) = .ok (.int z) := by
  have hn : i.toNat < L.length := by omega
  refine ⟨L[i.toNat], (hd _ (List.getElem_mem hn)).1, (hd _ (List.getElem_mem hn)).2, fIx_lst h0 (by rw [dI, List.getElem?_map, List.getElem?_eq_getElem hn]; rfl)⟩
/-- eight directions -/
theorem dirs (z : Int) : ∃ dx dy : Int, (dx = -1 ∨ dx = 0 ∨ dx = 1) ∧ (dy = -1 ∨ dy = 0 ∨ dy = 1) ∧ ¬ (dx = 0 ∧ dy = 0) ∧
    fIx (.lst [.tup [.int 1, .int 1], .tup [.int 1, .int (-1)], .tup [.int (-1), .int 1], .tup [.int (-1), .int (-1)], .tup [.int 1, .int 0], .tup [.int 0, .int (-1)], .tup [.int (-1), .int 0], .tup [.int 0, .int 1]]) (.int (z % 8)) = .ok (.tup [.int dx, .int dy]) := by
  have h8 : z % 8 = 0 ∨ z % 8 = 1 ∨ z % 8 = 2 ∨ z % 8 = 3 ∨ z % 8 = 4 ∨ z % 8 = 5 ∨ z % 8 = 6 ∨ z % 8 = 7 := by omega
  rcases h8 with h | h | h | h | h | h | h | h <;> rw [h]
  · exact ⟨1, 1, by decide, by decide, by decide, fIx_lst (by decide) rfl⟩
  · exact ⟨1, -1, by decide, by decide, by decide, fIx_lst (by decide) rfl⟩
  · exact ⟨-1, 1, by decide, by decide, by decide, fIx_lst (by decide) rfl⟩
  · exact ⟨-1, -1, by decide, by decide, by decide, fIx_lst (by decide) rfl⟩
  · exact ⟨1, 0, by decide, by decide, by decide, fIx_lst (by decide) rfl⟩
  · exact ⟨0, -1, by decide, by decide, by decide, fIx_lst (by decide) rfl⟩
  · exact ⟨-1, 0, by decide, by decide, by decide, fIx_lst (by decide) rfl⟩
  · exact ⟨0, 1, by decide, by decide, by decide, fIx_lst (by decide) rfl⟩
theorem pick2 (w z : Int) (hw : 0 ≤ w) : ∃ x : Int, 0 ≤ x ∧ x ≤ w ∧ fIx (.lst [.int 0, .int w]) (.int (z % 2)) = .ok (.int x) := by
  have h : z % 2 = 0 ∨ z % 2 = 1 := by omega
  rcases h with h | h <;> rw [h]
  · exact ⟨0, by omega, hw, fIx_lst (by decide) rfl⟩
  · exact ⟨w, hw, by omega, fIx_lst (by decide) rfl⟩
theorem law_ball (L : List Int) (hd : Dr L) (hl : 8 ≤ L.length) (w h : Int) (hw : 0 < w) (hh : 0 < h) : ∃ x y dx dy m : Int, 0 ≤ x ∧ x ≤ w ∧ 0 ≤ y ∧ y ≤ h ∧ (dx = -1 ∨ dx = 0 ∨ dx = 1) ∧ (dy = -1 ∨ dy = 0 ∨ dy = 1) ∧ ¬ (dx = 0 ∧ dy = 0) ∧ 0 ≤ m ∧ m < 9 ∧
    f_law_ball [.lst (dI L), .int 2, .int w, .int h, .str "b"] = .ok (bal x y dx dy m) := by
  obtain ⟨z2, _, _, i2⟩ := ixL (L := L) (i := 2) (by decide) (by omega) hd
  obtain ⟨z3, a3, b3, i3⟩ := ixL (L := L) (i := 3) (by decide) (by omega) hd
  obtain ⟨z4, a4, b4, i4⟩ := ixL (L := L) (i := 4) (by decide) (by omega) hd
  obtain ⟨z5, a5, b5, i5⟩ := ixL (L := L) (i := 5) (by decide) (by omega) hd
  obtain ⟨dx, dy, h1, h2, h3, hx⟩ := dirs z2
  obtain ⟨x1, p1, p2, p3⟩ := pick2 w z3 (by omega)
  obtain ⟨y1, q1, q2, q3⟩ := pick2 h z4 (by omega)
  have x0 : 0 ≤ z3 % (w + 1) := Int.emod_nonneg _ (by omega)
  have x2 : z3 % (w + 1) < w + 1 := Int.emod_lt_of_pos _ (by omega)
  have y0 : 0 ≤ z4 % (h + 1) := Int.emod_nonneg _ (by omega)
  have y2 : z4 % (h + 1) < h + 1 := Int.emod_lt_of_pos _ (by omega)
  have w1 : 0 < w + 1 := by omega
  have h1' : 0 < h + 1 := by omega
  generalize D.lst (dI L) = N at *
  refine ⟨if z5 % 4 = 1 then x1 else z3 % (w + 1), if z5 % 4 = 2 then y1 else z4 % (h + 1), dx, dy, z5 / 4 % 9, by split <;> omega, by split <;> omega, by split <;> omega, by split <;> omega, h1, h2, h3, by omega, by omega, ?_⟩
  have ra : (2 : Int) + 1 = 3 := rfl
  clear x0 x2 y0 y2 hd hl h1 h2 h3 p1 p2 q1 q2 a3 b3 a4 b4 a5 b5
  unfold f_law_ball runF p_law_ball
  by_cases c1 : z5 % 4 = 1
  · have c2 : ¬ z5 % 4 = 2 := by omega
    walk_at "dl"
  · by_cases c2 : z5 % 4 = 2
    · walk_at "dl"
    · walk_at "dl"
end DL
end

section
set_option linter.all false
set_option maxRecDepth 100000
set_option maxHeartbeats 4000000
set_option exponentiation.threshold 2000
namespace DL
open PySem L2
local macro_rules | `(tactic| walk_at "dl") => `(tactic| simp [pSeq, pSet, pSetO, pWith, pBin, pV, pVo, pC, pCall, pCons, pNil, pTup, pLst, pUn, pIf, pIfS, pRet, pDrop, pAsg, pPar, pAug, pApp, pFrz, frzE, pB, pTr, pNot, pAnd, pOr, pAndV, pOrV, pNotV, pNotT, pChain, pNext, pFn, arity, pIter, pFor, pRg1, pRg2, pSl, pNo, pPart, pWhile, fuelI, pIsi, pIsiT, tyN, isiOk, isiB, isiAny, pLc, pYes, wipeE, pMeth, qStm, qFld, qPut, qKeep, qRest, pEnum2, enumOf, enumD, sz_eq, *])
theorem great_loop (L : List Int) (hd : Dr L) (at_ : Int) (h0 : 0 ≤ at_) : ∀ (ks : List Int) (t : Int) (x : EV), (∀ k ∈ ks, 0 ≤ k ∧ at_ + 1 + k < L.length) → 0 ≤ t → ∃ (t' : Int) (x' : EV), 0 ≤ t' ∧
    forL (gN 3) l_law_great_0 (ks.map .int) [.dat (.lst (dI L)), .dat (.int at_), .dat (.int t), x] = .nx [.dat (.lst (dI L)), .dat (.int at_), .dat (.int t'), x']
  | [], t, x, _, ht => ⟨t, x, ht, rfl⟩
  | k :: ks, t, x, hk, ht => by
    obtain ⟨k0, k1⟩ := hk k List.mem_cons_self
    obtain ⟨z, z0, z1, iz⟩ := ixL (L := L) (i := at_ + 1 + k) (by omega) k1 hd
    obtain ⟨t', x', q1, q2⟩ := great_loop L hd at_ h0 ks (t * 10007 + z) (.dat (.int k)) (fun k h => hk k (List.mem_cons_of_mem _ h)) (by omega)
    refine ⟨t', x', q1, ?_⟩
    rw [List.map_cons, forL_step (ρ1 := [.dat (.lst (dI L)), .dat (.int at_), .dat (.int t), .dat (.int k)]) (ρ2 := [.dat (.lst (dI L)), .dat (.int at_), .dat (.int (t * 10007 + z)), .dat (.int k)]) rfl, q2]
    have m : fMul (.int t) (.int 10007) = .ok (.int (t * 10007)) := fMul_r (by decide)
    clear q2 hd
    unfold l_law_great_0
    walk_at "dl"
theorem rg_ints (n : Nat) : rgD 0 n = ((List.range n).map fun (i : Nat) => (i : Int)).map .int := by
  unfold rgD
  rw [List.map_map]
  apply List.map_congr_left
  intro i _
  simp
theorem law_great (L : List Int) (hd : Dr L) (at_ : Int) (h0 : 0 ≤ at_) (hl : at_ + 10 < L.length) : ∃ g : Int, 1 ≤ g ∧ g ≤ 1000000000000000000000000000000 ∧ f_law_great [.lst (dI L), .int at_] = .ok (.int g) := by
  obtain ⟨z, z0, z1, iz⟩ := ixL (L := L) (i := at_) h0 (by omega) hd
  have hn : 1 ≤ 1 + z % 9 ∧ 1 + z % 9 ≤ 9 := by omega
  obtain ⟨t', x', q1, q2⟩ := great_loop L hd at_ h0 ((List.range (1 + z % 9).toNat).map fun (i : Nat) => (i : Int)) 0 .unb (fun k hk => by
    obtain ⟨i, hi, rfl⟩ := List.mem_map.mp hk
    have := List.mem_range.mp hi
    omega) (by decide)
  rw [← rg_ints] at q2
  have rg : rgOk (1 + z % 9) = true := rgOk_of (by omega) (by omega)
  refine ⟨if 1 + t' < 1000000000000000000000000000000 then 1 + t' else 1000000000000000000000000000000, by split <;> omega, by split <;> omega, ?_⟩
  clear hd hn q1 hl h0 z0 z1
  generalize D.lst (dI L) = N at *
  unfold f_law_great runF p_law_great
  walk_at "dl"
theorem most_loop (N a w h n dx dy x y : D) : ∀ (ks : List D) (t : Int) (z : EV), 0 < t → ∃ (t' : Int) (z' : EV), 0 < t' ∧ forL (gN 10) l_law_greater_0 ks [.dat N, .dat a, .dat w, .dat h, .dat n, .dat dx, .dat dy, .dat x, .dat y, .dat (.int t), z] = .nx [.dat N, .dat a, .dat w, .dat h, .dat n, .dat dx, .dat dy, .dat x, .dat y, .dat (.int t'), z']
  | [], t, z, ht => ⟨t, z, ht, rfl⟩
  | k :: ks, t, z, ht => by
    obtain ⟨t', z', q1, q2⟩ := most_loop N a w h n dx dy x y ks (t * 10) (.dat k) (by omega)
    refine ⟨t', z', q1, ?_⟩
    rw [forL_step (ρ1 := [.dat N, .dat a, .dat w, .dat h, .dat n, .dat dx, .dat dy, .dat x, .dat y, .dat (.int t), .dat k]) (ρ2 := [.dat N, .dat a, .dat w, .dat h, .dat n, .dat dx, .dat dy, .dat x, .dat y, .dat (.int (t * 10)), .dat k]) rfl, q2]
    have m : fMul (.int t) (.int 10) = .ok (.int (t * 10)) := fMul_r (by decide)
    clear q2
    unfold l_law_greater_0
    walk_at "dl"
theorem law_greater (L : List Int) (hd : Dr L) (hl : 150 < L.length) (w h : Int) (hw : 0 < w) (hh : 0 < h) : ∃ x y dx dy m : Int, 0 ≤ x ∧ x ≤ w ∧ 0 ≤ y ∧ y ≤ h ∧ (dx = -1 ∨ dx = 0 ∨ dx = 1) ∧ (dy = -1 ∨ dy = 0 ∨ dy = 1) ∧ ¬ (dx = 0 ∧ dy = 0) ∧ 0 ≤ m ∧ m ≤ 1000000000000000000000000000000 ∧
    f_law_greater [.lst (dI L), .int 92, .int w, .int h, .str "b"] = .ok (bal x y dx dy m) := by
  obtain ⟨z, _, _, i2⟩ := ixL (L := L) (i := 92) (by decide) (by omega) hd
  obtain ⟨dx, dy, h1, h2, h3, hx⟩ := dirs z
  obtain ⟨g1, a1, b1, e1⟩ := law_great L hd 93 (by decide) (by omega)
  obtain ⟨g2, a2, b2, e2⟩ := law_great L hd 103 (by decide) (by omega)
  obtain ⟨g3, a3, b3, e3⟩ := law_great L hd 113 (by decide) (by omega)
  obtain ⟨zk, a4, b4, i4⟩ := ixL (L := L) (i := 123) (by decide) (by omega) hd
  have w1 : 0 < w + 1 := by omega
  have h1' : 0 < h + 1 := by omega
  obtain ⟨t', z', t0, t1⟩ := most_loop (.lst (dI L)) (.int 92) (.int w) (.int h) (.str "b") (.int dx) (.int dy) (.int (g1 % (w + 1))) (.int (g2 % (h + 1))) (rgD 0 (zk % 30).toNat) 1 .unb (by decide)
  have rg : rgOk (zk % 30) = true := rgOk_of (by omega) (by omega)
  have x0 := Int.emod_nonneg g1 (show w + 1 ≠ 0 by omega)
  have x1 := Int.emod_lt_of_pos g1 w1
  have y0 := Int.emod_nonneg g2 (show h + 1 ≠ 0 by omega)
  have y1 := Int.emod_lt_of_pos g2 h1'
  have m0 := Int.emod_nonneg g3 (show t' ≠ 0 by omega)
  have m1 : g3 % t' ≤ g3 := by
    by_cases c : g3 < t'
    · rw [Int.emod_eq_of_lt (by omega) c]; exact Int.le_refl _
    · have := Int.emod_lt_of_pos g3 t0; omega
  refine ⟨g1 % (w + 1), g2 % (h + 1), dx, dy, g3 % t', x0, by omega, y0, by omega, h1, h2, h3, m0, by omega, ?_⟩
  generalize D.lst (dI L) = N at *
  have md := @fMod_ok g3 t' t0
  clear x0 x1 y0 y1 m0 m1 hd hl h1 h2 h3 a1 b1 a2 b2 a3 b3 a4 b4
  unfold f_law_greater runF p_law_greater
  walk_at "dl"
/-! the law's own fold -/
def lpM (s x d t : Int) : Int := if (x + d * t) / s % 2 = 1 then s - (x + d * t - (x + d * t) / s * s) else x + d * t - (x + d * t) / s * s
theorem law_part_is (s x d t : Int) (hs : 0 < s) (hb : s < 10 ^ 100) (hd : d = -1 ∨ d = 0 ∨ d = 1) (hx : x.natAbs < 10 ^ 100) (ht : t.natAbs < 10 ^ 100) : f_law_part [.int s, .int x, .int d, .int t] = .ok (.int (lpM s x d t)) := by
  have m1 : fMul (.int d) (.int t) = .ok (.int (d * t)) := fMul_l (by omega)
  have e1 : (10 : Int) ^ 100 < 10 ^ 200 := by decide
  have e2 : (10 : Nat) ^ 100 * 10 < 10 ^ 300 := by decide
  have e3 : (10 : Int) ^ 100 = ((10 ^ 100 : Nat) : Int) := by norm_cast
  have dv := @fDiv_ok (x + d * t) s hs (by omega)
  have dt : (d * t).natAbs < 10 ^ 100 := by
    rcases hd with rfl | rfl | rfl
    · rw [show (-1) * t = -t by omega]; omega
    · rw [Int.zero_mul]; decide
    · rw [Int.one_mul]; exact ht
  have em := Int.emod_add_mul_ediv (x + d * t) s
  have r0 := Int.emod_nonneg (x + d * t) (show s ≠ 0 by omega)
  have r1 := Int.emod_lt_of_pos (x + d * t) hs
  have qb : ((x + d * t) / s).natAbs < 10 ^ 300 := by
    generalize (x + d * t) / s = q at *
    by_cases hq : 0 ≤ q
    · have := Int.mul_le_mul_of_nonneg_right (show 1 ≤ s by omega) hq
      omega
    · have := Int.mul_le_mul_of_nonneg_right (show 1 ≤ s by omega) (show 0 ≤ -q by omega)
      have e5 : s * -q = -(s * q) := Int.mul_neg s q
      omega
  have m2 : fMul (.int ((x + d * t) / s)) (.int s) = .ok (.int ((x + d * t) / s * s)) := fMul_w qb (by omega)
  clear em r0 r1 qb dt e1 e2 e3 hx ht hb hd
  unfold f_law_part runF p_law_part lpM
  by_cases c : (x + d * t) / s % 2 = 1
  · walk_at "dl"
  · walk_at "dl"
theorem law_turned_is (s x d : Int) : f_law_turned [.int s, .int x, .int d] = .ok (.int (if x + d < 0 ∨ s < x + d then -d else d)) := by
  unfold f_law_turned runF p_law_turned
  by_cases c1 : x + d < 0
  · walk_at "dl"
  · by_cases c2 : s < x + d
    · walk_at "dl"
    · walk_at "dl"
end DL
end

section
set_option linter.all false
set_option maxRecDepth 100000
set_option maxHeartbeats 4000000
namespace DL
open PySem L2
/-! the fold, step by step -/
theorem mod_next (p s : Int) (hs : 0 < s) : (p + 1) % (2 * s) = if p % (2 * s) + 1 = 2 * s then 0 else p % (2 * s) + 1 := by
  have r0 := Int.emod_nonneg p (show 2 * s ≠ 0 by omega)
  have r1 := Int.emod_lt_of_pos p (show 0 < 2 * s by omega)
  have e : p + 1 = (p % (2 * s) + 1) + 2 * s * (p / (2 * s)) := by
    have := Int.emod_add_mul_ediv p (2 * s); omega
  rw [e, Int.add_mul_emod_self_left]
  generalize p % (2 * s) = r at *
  split
  · rename_i h; rw [h]; exact Int.emod_self
  · exact Int.emod_eq_of_lt (by omega) (by omega)
def tuM (s x d : Int) : Int := if x + d < 0 ∨ s < x + d then -d else d
theorem pa_next (s x d t : Int) (hs : 0 < s) : paM s x d (t + 1) = paM s x d t + stM s x d t := by
  unfold paM stM foM
  by_cases h : d = 0
  · simp [h]
  · rw [if_neg h, if_neg h, if_neg h, ← Int.add_assoc, mod_next _ _ hs]
    have r0 := Int.emod_nonneg (phM s x d + t) (show 2 * s ≠ 0 by omega)
    have r1 := Int.emod_lt_of_pos (phM s x d + t) (show 0 < 2 * s by omega)
    generalize (phM s x d + t) % (2 * s) = r at *
    split <;> split <;> split <;> split <;> omega
theorem tu_next (s x d t : Int) (hs : 0 < s) (h0 : 0 ≤ x) (h1 : x ≤ s) : tuM s (paM s x d (t + 1)) (stM s x d t) = stM s x d (t + 1) := by
  unfold tuM paM stM foM
  by_cases h : d = 0
  · simp only [h, if_true]
    simp
  · rw [if_neg h, if_neg h, if_neg h, ← Int.add_assoc, mod_next _ _ hs]
    have r0 := Int.emod_nonneg (phM s x d + t) (show 2 * s ≠ 0 by omega)
    have r1 := Int.emod_lt_of_pos (phM s x d + t) (show 0 < 2 * s by omega)
    generalize (phM s x d + t) % (2 * s) = r at *
    by_cases c1 : r + 1 = 2 * s
    · simp only [c1, if_true]
      (repeat' split) <;> omega
    · simp only [c1, if_false]
      (repeat' split) <;> omega
theorem ph_mod (s x : Int) (hs : 0 < s) (h0 : 0 ≤ x) (h1 : x ≤ s) : (-x) % (2 * s) = if x = 0 then 0 else 2 * s - x := by
  split
  · rename_i h; rw [h]; rfl
  · have e : -x = (2 * s - x) + 2 * s * (-1) := by omega
    rw [e, Int.add_mul_emod_self_left]
    exact Int.emod_eq_of_lt (by omega) (by omega)
theorem ph_is (s x d : Int) (hs : 0 < s) (h0 : 0 ≤ x) (h1 : x ≤ s) : phM s x d % (2 * s) = if d = 1 then x else if x = 0 then 0 else 2 * s - x := by
  unfold phM
  by_cases h : d = 1
  · rw [if_pos h, if_pos h]; exact Int.emod_eq_of_lt h0 (by omega)
  · rw [if_neg h, if_neg h, Int.emod_emod, ph_mod s x hs h0 h1]
theorem pa_zero (s x d : Int) (hs : 0 < s) (h0 : 0 ≤ x) (h1 : x ≤ s) : paM s x d 0 = x := by
  unfold paM foM
  by_cases h : d = 0
  · rw [if_pos h]
  · rw [if_neg h, Int.add_zero, ph_is s x d hs h0 h1]
    (repeat' split) <;> omega
theorem tu_zero (s x d : Int) (hs : 0 < s) (h0 : 0 ≤ x) (h1 : x ≤ s) (hd : d = -1 ∨ d = 0 ∨ d = 1) : tuM s x d = stM s x d 0 := by
  unfold tuM stM
  by_cases h : d = 0
  · rw [if_pos h, h]; simp
  · rw [if_neg h, Int.add_zero, ph_is s x d hs h0 h1]
    (repeat' split) <;> omega
/-- a whole number of periods later -/
theorem pa_per (s x d t u : Int) : paM s x d (t + 2 * s * u) = paM s x d t := by
  unfold paM foM
  rw [← Int.add_assoc, Int.add_mul_emod_self_left]
theorem st_per (s x d t u : Int) : stM s x d (t + 2 * s * u) = stM s x d t := by
  unfold stM
  rw [← Int.add_assoc, Int.add_mul_emod_self_left]
/-- the law's own fold is the same -/
theorem lp_is (s x d t : Int) (hs : 0 < s) (h0 : 0 ≤ x) (h1 : x ≤ s) (hd : d = -1 ∨ d = 0 ∨ d = 1) : lpM s x d t = paM s x d t := by
  have key : ∀ p : Int, (if p / s % 2 = 1 then s - (p - p / s * s) else p - p / s * s) = foM s p := fun p => by
    unfold foM
    have em := Int.emod_add_mul_ediv p s
    have r0 := Int.emod_nonneg p (show s ≠ 0 by omega)
    have r1 := Int.emod_lt_of_pos p hs
    have e1 : p - p / s * s = p % s := by rw [Int.mul_comm]; omega
    rw [e1]
    have hq : p / s = 2 * (p / s / 2) + p / s % 2 := by omega
    have hr : p % (2 * s) = p / s % 2 * s + p % s := by
      have e2 : p = (p / s % 2 * s + p % s) + 2 * s * (p / s / 2) := by
        conv => lhs; rw [← em, hq]
        grind
      conv => lhs; rw [e2]
      rw [Int.add_mul_emod_self_left]
      rcases (show p / s % 2 = 0 ∨ p / s % 2 = 1 by omega) with z | z
      · rw [z, Int.zero_mul, Int.zero_add]; exact Int.emod_eq_of_lt r0 (by omega)
      · rw [z, Int.one_mul]; exact Int.emod_eq_of_lt (by omega) (by omega)
    rw [hr]
    rcases (show p / s % 2 = 0 ∨ p / s % 2 = 1 by omega) with z | z
    · rw [z, Int.zero_mul, Int.zero_add]
      generalize p % s = r at *
      (repeat' split) <;> omega
    · rw [z, Int.one_mul]
      generalize p % s = r at *
      (repeat' split) <;> omega
  have fneg : ∀ p : Int, foM s (-p) = foM s p := fun p => by
    unfold foM
    have r0 := Int.emod_nonneg p (show 2 * s ≠ 0 by omega)
    have r1 := Int.emod_lt_of_pos p (show 0 < 2 * s by omega)
    have e : -p = -(p % (2 * s)) + 2 * s * (-(p / (2 * s))) := by
      have := Int.emod_add_mul_ediv p (2 * s)
      rw [Int.mul_neg]; omega
    rw [e, Int.add_mul_emod_self_left]
    generalize p % (2 * s) = r at *
    by_cases hz : r = 0
    · subst hz; rfl
    · have e2 : -r = (2 * s - r) + 2 * s * (-1) := by omega
      rw [e2, Int.add_mul_emod_self_left, Int.emod_eq_of_lt (show 0 ≤ 2 * s - r by omega) (by omega)]
      (repeat' split) <;> omega
  have fmod : ∀ p q : Int, p % (2 * s) = q % (2 * s) → foM s p = foM s q := fun p q h => by unfold foM; rw [h]
  unfold lpM paM
  rw [key]
  rcases hd with rfl | rfl | rfl
  · rw [if_neg (by decide), ← fneg]
    apply fmod
    unfold phM
    rw [if_neg (by decide), show -(x + -1 * t) = -x + t by omega, Int.emod_add_emod]
  · rw [if_pos rfl, Int.zero_mul, Int.add_zero]
    have := pa_zero s x 1 hs h0 h1
    unfold paM at this
    rw [if_neg (by decide), Int.add_zero] at this
    unfold phM at this
    rw [if_pos rfl] at this
    exact this
  · rw [if_neg (by decide), Int.one_mul]
    unfold phM
    rw [if_pos rfl]
end DL
end

section
set_option linter.all false
set_option maxRecDepth 100000
set_option maxHeartbeats 4000000
set_option exponentiation.threshold 2000
namespace DL
open PySem L2
local macro_rules | `(tactic| walk_at "dl") => `(tactic| simp [pSeq, pSet, pSetO, pWith, pBin, pV, pVo, pC, pCall, pCons, pNil, pTup, pLst, pUn, pIf, pIfS, pRet, pDrop, pAsg, pPar, pAug, pApp, pFrz, frzE, pB, pTr, pNot, pAnd, pOr, pAndV, pOrV, pNotV, pNotT, pChain, pNext, pFn, arity, pIter, pFor, pRg1, pRg2, pSl, pNo, pPart, pWhile, fuelI, pIsi, pIsiT, tyN, isiOk, isiB, isiAny, pLc, pYes, wipeE, pMeth, qStm, qFld, qPut, qKeep, qRest, pEnum2, enumOf, enumD, sz_eq, *])
/-! the walk -/
def rowM (w h x y dx dy : Int) (k : Int) : D := .tup [.int (paM w x dx k), .int (paM h y dy k), .int (stM w x dx k), .int (stM h y dy k)]
def rowsM (w h x y dx dy : Int) (k : Int) : Nat → List D
  | 0 => []
  | n + 1 => rowM w h x y dx dy k :: rowsM w h x y dx dy (k + 1) n
theorem rows_get {w h x y dx dy : Int} : ∀ {n j : Nat} {k : Int}, j < n → (rowsM w h x y dx dy k n)[j]? = some (rowM w h x y dx dy (k + j))
  | 0, j, k, hj => by omega
  | n + 1, 0, k, hj => by simp [rowsM]
  | n + 1, j + 1, k, hj => by
    show (rowsM w h x y dx dy (k + 1) n)[j]? = _
    rw [rows_get (by omega)]
    congr 2
    omega
theorem walk_loop (w h x y dx dy : Int) (hw : 0 < w) (hh : 0 < h) (x0 : 0 ≤ x) (x1 : x ≤ w) (y0 : 0 ≤ y) (y1 : y ≤ h) (b many nm mn : D) : ∀ (ks : List D) (k : Int) (acc : List D) (d e : Int) (z : EV), tuM w (paM w x dx k) d = stM w x dx k → tuM h (paM h y dy k) e = stM h y dy k → acc.length + ks.length < 10000 →
    ∃ (d' e' p q : Int) (z' : EV), forL (gN 11) l_law_walk_0 ks [.dat (.int w), .dat (.int h), .dat b, .dat many, .dat nm, .dat (.int (paM w x dx k)), .dat (.int (paM h y dy k)), .dat (.int d), .dat (.int e), .dat mn, .own (.lst acc), z] =
      .nx [.dat (.int w), .dat (.int h), .dat b, .dat many, .dat nm, .dat (.int p), .dat (.int q), .dat (.int d'), .dat (.int e'), .dat mn, .own (.lst (acc ++ rowsM w h x y dx dy k ks.length)), z']
  | [], k, acc, d, e, z, h1, h2, hl => ⟨d, e, _, _, z, by rw [List.length_nil, rowsM, List.append_nil]; rfl⟩
  | j :: ks, k, acc, d, e, z, h1, h2, hl => by
    rw [List.length_cons] at hl
    obtain ⟨d', e', p, q, z', r⟩ := walk_loop w h x y dx dy hw hh x0 x1 y0 y1 b many nm mn ks (k + 1) (acc ++ [rowM w h x y dx dy k]) (stM w x dx k) (stM h y dy k) (.dat j) (tu_next w x dx k hw x0 x1) (tu_next h y dy k hh y0 y1) (by simp; omega)
    refine ⟨d', e', p, q, z', ?_⟩
    rw [forL_step (ρ1 := [.dat (.int w), .dat (.int h), .dat b, .dat many, .dat nm, .dat (.int (paM w x dx k)), .dat (.int (paM h y dy k)), .dat (.int d), .dat (.int e), .dat mn, .own (.lst acc), .dat j]) (ρ2 := [.dat (.int w), .dat (.int h), .dat b, .dat many, .dat nm, .dat (.int (paM w x dx (k + 1))), .dat (.int (paM h y dy (k + 1))), .dat (.int (stM w x dx k)), .dat (.int (stM h y dy k)), .dat mn, .own (.lst (acc ++ [rowM w h x y dx dy k])), .dat j]) rfl, r]
    · rw [List.length_cons, rowsM, List.append_assoc]; rfl
    · have t1 := law_turned_is w (paM w x dx k) d
      rw [show (if paM w x dx k + d < 0 ∨ w < paM w x dx k + d then -d else d) = stM w x dx k from h1] at t1
      have t2 := law_turned_is h (paM h y dy k) e
      rw [show (if paM h y dy k + e < 0 ∨ h < paM h y dy k + e then -e else e) = stM h y dy k from h2] at t2
      have n1 := pa_next w x dx k hw
      have n2 := pa_next h y dy k hh
      have hsz : acc.length < sizeLine := by rw [sizeLine_eq]; omega
      unfold rowM
      clear r h1 h2 hl
      rw [n1, n2]
      generalize paM w x dx k = P at *
      generalize paM h y dy k = Q at *
      generalize stM w x dx k = S at *
      generalize stM h y dy k = U at *
      unfold l_law_walk_0
      clear n1 n2 x0 x1 y0 y1 hw hh
      have hsz2 : acc.length < 16777216 := by rw [← sizeLine_eq]; exact hsz
      walk_at "dl"
theorem law_walk_is (w h x y dx dy m : Int) (hw : 0 < w) (hh : 0 < h) (x0 : 0 ≤ x) (x1 : x ≤ w) (y0 : 0 ≤ y) (y1 : y ≤ h) (hdx : dx = -1 ∨ dx = 0 ∨ dx = 1) (hdy : dy = -1 ∨ dy = 0 ∨ dy = 1) :
    f_law_walk [.int w, .int h, bal x y dx dy m, .int 40] = .ok (.lst (rowsM w h x y dx dy 0 40)) := by
  have a1 := tu_zero w x dx hw x0 x1 hdx
  have a2 := tu_zero h y dy hh y0 y1 hdy
  have b1 := pa_zero w x dx hw x0 x1
  have b2 := pa_zero h y dy hh y0 y1
  obtain ⟨d', e', p, q, z', r⟩ := walk_loop w h x y dx dy hw hh x0 x1 y0 y1 (bal x y dx dy m) (.int 40) (.str "b") (.int m) (rgD 0 40) 0 [] dx dy .unb (by rw [b1]; exact a1) (by rw [b2]; exact a2) (by rw [rgD_len]; decide)
  rw [rgD_len, b1, b2, List.nil_append] at r
  have hr : rgOk 40 = true := rgOk_of (by decide) (by decide)
  clear a1 a2 b1 b2 x0 x1 y0 y1 hw hh hdx hdy
  unfold f_law_walk runF p_law_walk
  walk_at "dl"
/-! compare -/
def lay (k : Nat) (d : D) : Prop := (toPy d).canLay0 = true ∧ (toPy d).depth ≤ k
theorem lay_int {i : Int} {k : Nat} : lay k (.int i) := ⟨by simp [toPy, PyData.canLay0], by simp [toPy, PyData.depth]⟩
theorem lay_all {k : Nat} : ∀ {ds : List D}, (∀ d ∈ ds, lay k d) → PyData.canLayAll0 (toPyL ds) = true ∧ PyData.depthAll (toPyL ds) ≤ k
  | [], _ => ⟨by simp [toPyL, PyData.canLayAll0], by simp [toPyL, PyData.depthAll]⟩
  | d :: ds, h => by
    obtain ⟨a, b⟩ := h d List.mem_cons_self
    obtain ⟨c, e⟩ := lay_all fun x hx => h x (List.mem_cons_of_mem _ hx)
    exact ⟨by simp [toPyL, PyData.canLayAll0, a, c], by simp [toPyL, PyData.depthAll]; omega⟩
theorem lay_tup {k : Nat} {ds : List D} (h : ∀ d ∈ ds, lay k d) : lay (k + 1) (.tup ds) := by
  obtain ⟨a, b⟩ := lay_all h
  exact ⟨by simp [toPy, PyData.canLay0, a], by simp [toPy, PyData.depth]; omega⟩
theorem shp_lay {k : Nat} {d : D} (h : lay k d) (hk : k ≤ 64) : shp d = true := by
  unfold shp SeqAt.shaped
  rw [h.1, decide_eq_true (Nat.le_trans h.2 hk)]; rfl
theorem deq_refl {k : Nat} {d : D} (h : lay k d) : deq d d = true := PySem.SeqAt.eqv_refl _ h.1
theorem lay_two (a b : Int) : lay 1 (.tup [.int a, .int b]) := lay_tup fun d hd => by
  simp at hd
  rcases hd with rfl | rfl <;> exact lay_int
theorem fEq_two (a b : Int) : fEq (.tup [.int a, .int b]) (.tup [.int a, .int b]) = .ok (.bl true) := by
  show (if shp (.tup [.int a, .int b]) && shp (.tup [.int a, .int b]) then Rs.ok (D.bl (deq (.tup [.int a, .int b]) (.tup [.int a, .int b]))) else .no) = _
  rw [shp_lay (lay_two a b) (by decide), deq_refl (lay_two a b)]; rfl
theorem is_int_ok (a : Int) : f_law_is_integer [.int a] = .ok (.bl true) := by
  unfold f_law_is_integer runF p_law_is_integer
  walk_at "dl"
theorem parts_ok (a b : Int) : f_law_are_parts [.tup [.int a, .int b], .tup [.int a, .int b]] = .ok (.bl true) := by
  have e1 := fEq_two a b
  have a1 : fAll [.lst [.bl true, .bl true]] = .ok (.bl true) := rfl
  have c0 : ∀ z v, e_law_are_parts_0 [z, v, .dat (.int a)] = .ok (.bl true) := fun z v => by
    have := is_int_ok a
    unfold e_law_are_parts_0
    walk_at "dl"
  have c1 : ∀ z v, e_law_are_parts_0 [z, v, .dat (.int b)] = .ok (.bl true) := fun z v => by
    have := is_int_ok b
    unfold e_law_are_parts_0
    walk_at "dl"
  unfold f_law_are_parts runF p_law_are_parts
  walk_at "dl"
  simp [lcL, pYes, *]
end DL
end

section
set_option linter.all false
set_option maxRecDepth 100000
set_option maxHeartbeats 4000000
set_option exponentiation.threshold 2000
namespace DL
open PySem L2
local macro_rules | `(tactic| walk_at "dl") => `(tactic| simp [pSeq, pSet, pSetO, pWith, pBin, pV, pVo, pC, pCall, pCons, pNil, pTup, pLst, pUn, pIf, pIfS, pRet, pDrop, pAsg, pPar, pAug, pApp, pFrz, frzE, pB, pTr, pNot, pAnd, pOr, pAndV, pOrV, pNotV, pNotT, pChain, pNext, pFn, arity, pIter, pFor, pRg1, pRg2, pSl, pNo, pPart, pWhile, fuelI, pIsi, pIsiT, tyN, isiOk, isiB, isiAny, pLc, pYes, wipeE, pMeth, qStm, qFld, qPut, qKeep, qRest, pEnum2, enumOf, enumD, sz_eq, *])
theorem cut_a (a b c d : D) : fSl (.tup [a, b, c, d]) none (some 2) = .ok (.tup [a, b]) := rfl
theorem cut_b (a b c d : D) : fSl (.tup [a, b, c, d]) (some 2) none = .ok (.tup [c, d]) := rfl
theorem main_loop (s0 : D) (L : List Int) (hd : Dr L) (hL : L.length = 160) (w h x y dx dy m g : Int) (hw : 0 < w) (hh : 0 < h) (hb : f_is_ball [tab w h, bal x y dx dy m] = .ok (.bl true)) (g0 : 0 ≤ g) :
    ∀ (ks : List Int) (z8 z9 z10 z11 : EV), (∀ k ∈ ks, 0 ≤ k ∧ k < 40) → ∃ (z8' z9' : EV),
      forL (gN 8) l_law_0 (ks.map .int) [.dat s0, .dat (.lst (dI L)), .dat (.int w), .dat (.int h), .dat (tab w h), .dat (bal x y dx dy m), .dat (.lst (rowsM w h x y dx dy 0 40)), .dat (.int (2 * w * 2 * h * g)), z8, z9, z10, z11] =
        .nx [.dat s0, .dat (.lst (dI L)), .dat (.int w), .dat (.int h), .dat (tab w h), .dat (bal x y dx dy m), .dat (.lst (rowsM w h x y dx dy 0 40)), .dat (.int (2 * w * 2 * h * g)), z8', z9', z10, z11]
  | [], z8, z9, z10, z11, _ => ⟨z8, z9, rfl⟩
  | k :: ks, z8, z9, z10, z11, hk => by
    obtain ⟨k0, k1⟩ := hk k List.mem_cons_self
    obtain ⟨c, c0, c1, ic⟩ := ixL (L := L) (i := 30 + k) (by omega) (by omega) hd
    obtain ⟨z8', z9', r⟩ := main_loop s0 L hd hL w h x y dx dy m g hw hh hb g0 ks (.dat (.int k)) (.dat (.int (m + k + 2 * w * 2 * h * g * (c % 2)))) z10 z11 (fun k h => hk k (List.mem_cons_of_mem _ h))
    refine ⟨z8', z9', ?_⟩
    rw [List.map_cons, forL_step (ρ1 := [.dat s0, .dat (.lst (dI L)), .dat (.int w), .dat (.int h), .dat (tab w h), .dat (bal x y dx dy m), .dat (.lst (rowsM w h x y dx dy 0 40)), .dat (.int (2 * w * 2 * h * g)), .dat (.int k), z9, z10, z11]) rfl (ρ2 := [.dat s0, .dat (.lst (dI L)), .dat (.int w), .dat (.int h), .dat (tab w h), .dat (bal x y dx dy m), .dat (.lst (rowsM w h x y dx dy 0 40)), .dat (.int (2 * w * 2 * h * g)), .dat (.int k), .dat (.int (m + k + 2 * w * 2 * h * g * (c % 2))), z10, z11]) , r]
    clear r
    have hf : 0 ≤ 2 * w * 2 * h * g * (c % 2) := Int.mul_nonneg (Int.mul_nonneg (Int.mul_nonneg (Int.mul_nonneg (Int.mul_nonneg (by decide) (by omega)) (by decide)) (by omega)) g0) (by omega)
    have ht : m ≤ m + k + 2 * w * 2 * h * g * (c % 2) := by omega
    have p1 := place_is w h x y dx dy m (m + k + 2 * w * 2 * h * g * (c % 2)) hw hh hb ht
    have p2 := heading_is w h x y dx dy m (m + k + 2 * w * 2 * h * g * (c % 2)) hw hh hb ht
    have e1 : m + k + 2 * w * 2 * h * g * (c % 2) - m = k + 2 * w * (2 * h * g * (c % 2)) := by grind
    have e2 : m + k + 2 * w * 2 * h * g * (c % 2) - m = k + 2 * h * (2 * w * g * (c % 2)) := by grind
    have f1 : paM w x dx (m + k + 2 * w * 2 * h * g * (c % 2) - m) = paM w x dx k := by rw [e1, pa_per]
    have f2 : paM h y dy (m + k + 2 * w * 2 * h * g * (c % 2) - m) = paM h y dy k := by rw [e2, pa_per]
    have f3 : stM w x dx (m + k + 2 * w * 2 * h * g * (c % 2) - m) = stM w x dx k := by rw [e1, st_per]
    have f4 : stM h y dy (m + k + 2 * w * 2 * h * g * (c % 2) - m) = stM h y dy k := by rw [e2, st_per]
    rw [f1, f2] at p1
    rw [f3, f4] at p2
    have ir : fIx (.lst (rowsM w h x y dx dy 0 40)) (.int k) = .ok (rowM w h x y dx dy k) := fIx_lst k0 (by
      rw [rows_get (by omega)]
      congr 2
      omega)
    unfold rowM at ir
    have i5 : fIx (bal x y dx dy m) (.int 5) = .ok (.int m) := rfl
    have mf : fMul (.int (2 * w * 2 * h * g)) (.int (c % 2)) = .ok (.int (2 * w * 2 * h * g * (c % 2))) := fMul_r (by omega)
    have q1 := parts_ok (paM w x dx k) (paM h y dy k)
    have q2 := parts_ok (stM w x dx k) (stM h y dy k)
    have ca := cut_a (.int (paM w x dx k)) (.int (paM h y dy k)) (.int (stM w x dx k)) (.int (stM h y dy k))
    have cb := cut_b (.int (paM w x dx k)) (.int (paM h y dy k)) (.int (stM w x dx k)) (.int (stM h y dy k))
    clear f1 f2 f3 f4 e1 e2 ht hf hk hb hd hL
    generalize 2 * w * 2 * h * g = far at *
    generalize D.lst (dI L) = N at *
    generalize bal x y dx dy m = B at *
    generalize tab w h = T at *
    generalize D.lst (rowsM w h x y dx dy 0 40) = R at *
    generalize paM w x dx k = P at *
    generalize paM h y dy k = Q at *
    generalize stM w x dx k = S at *
    generalize stM h y dy k = U at *
    unfold l_law_0
    walk_at "dl"
theorem law_where_is (w h x y dx dy m t : Int) (hw : 0 < w) (hh : 0 < h) (bw : w < 10 ^ 100) (bh : h < 10 ^ 100) (x0 : 0 ≤ x) (x1 : x ≤ w) (y0 : 0 ≤ y) (y1 : y ≤ h) (hdx : dx = -1 ∨ dx = 0 ∨ dx = 1) (hdy : dy = -1 ∨ dy = 0 ∨ dy = 1) (ht : (t - m).natAbs < 10 ^ 100) :
    f_law_where [.int w, .int h, bal x y dx dy m, .int t] = .ok (.tup [.int (paM w x dx (t - m)), .int (paM h y dy (t - m))]) := by
  have e3 : (10 : Int) ^ 100 = ((10 ^ 100 : Nat) : Int) := by norm_cast
  have e1 := law_part_is w x dx (t - m) hw bw hdx (by omega) ht
  have e2 := law_part_is h y dy (t - m) hh bh hdy (by omega) ht
  rw [lp_is w x dx (t - m) hw x0 x1 hdx] at e1
  rw [lp_is h y dy (t - m) hh y0 y1 hdy] at e2
  clear e3 ht hdx hdy x0 x1 y0 y1 bw bh hw hh
  unfold f_law_where runF p_law_where
  walk_at "dl"
theorem q9 (s0 : D) (L : List Int) (hd : Dr L) (hL : L.length = 160) (z2 z3 z4 z5 z6 z7 z8 z9 z10 z11 : EV) : q9_law_0 [.dat s0, .dat (.lst (dI L)), z2, z3, z4, z5, z6, z7, z8, z9, z10, z11] = .rt (.bl true) := by
  obtain ⟨w, w0, w1, ew⟩ := law_great L hd 72 (by decide) (by omega)
  obtain ⟨h, h0, h1, eh⟩ := law_great L hd 82 (by decide) (by omega)
  obtain ⟨g, g0, g1, eg⟩ := law_great L hd 130 (by decide) (by omega)
  obtain ⟨x, y, dx, dy, m, x0, x1, y0, y1, hdx, hdy, hz, m0, m1, eb⟩ := law_greater L hd (by omega) w h (by omega) (by omega)
  have hb := is_ball_ok w h x y dx dy m x0 x1 y0 y1 hdx hdy hz m0 m1
  have tm := table_made w h w0 w1 h0 h1
  have big : (1000000000000000000000000000002 : Int) < 10 ^ 100 := by decide
  have bign : (1000000000000000000000000000002 : Nat) < 10 ^ 100 := by decide
  have ea : m + g - 1 - m = g - 1 := by omega
  have ec : m + g - 1 + 1 - m = g - 1 + 1 := by omega
  have p1 := law_where_is w h x y dx dy m (m + g - 1) (by omega) (by omega) (by omega) (by omega) x0 x1 y0 y1 hdx hdy (by omega)
  have p2 := law_where_is w h x y dx dy m (m + g - 1 + 1) (by omega) (by omega) (by omega) (by omega) x0 x1 y0 y1 hdx hdy (by omega)
  have p3 := place_is w h x y dx dy m (m + g - 1) (by omega) (by omega) hb (by omega)
  have p4 := heading_is w h x y dx dy m (m + g - 1) (by omega) (by omega) hb (by omega)
  rw [ea] at p1 p3 p4
  rw [ec] at p2
  have n1 := pa_next w x dx (g - 1) (by omega)
  have n2 := pa_next h y dy (g - 1) (by omega)
  rw [n1, n2, show m + g - 1 + 1 = m + g by omega] at p2
  have q1 := parts_ok (paM w x dx (g - 1)) (paM h y dy (g - 1))
  have q2 := parts_ok (stM w x dx (g - 1)) (stM h y dy (g - 1))
  have i5 : fIx (bal x y dx dy m) (.int 5) = .ok (.int m) := rfl
  have s1 : ∀ a b : Int, a + b - a = b := fun a b => by omega
  clear n1 n2 ea ec big bign hb hd hL hz m0 m1 x0 x1 y0 y1 hdx hdy w0 w1 h0 h1 g0 g1
  generalize D.lst (dI L) = N at *
  generalize bal x y dx dy m = B at *
  generalize tab w h = T at *
  generalize paM w x dx (g - 1) = P at *
  generalize paM h y dy (g - 1) = Q at *
  generalize stM w x dx (g - 1) = S at *
  generalize stM h y dy (g - 1) = U at *
  unfold q9_law_0
  walk_at "dl"
end DL
end

section
set_option linter.all false
set_option maxRecDepth 100000
set_option maxHeartbeats 4000000
set_option exponentiation.threshold 2000
namespace DL
open PySem L2
local macro_rules | `(tactic| walk_at "dl") => `(tactic| simp [pSeq, pSet, pSetO, pWith, pBin, pV, pVo, pC, pCall, pCons, pNil, pTup, pLst, pUn, pIf, pIfS, pRet, pDrop, pAsg, pPar, pAug, pApp, pFrz, frzE, pB, pTr, pNot, pAnd, pOr, pAndV, pOrV, pNotV, pNotT, pChain, pNext, pFn, arity, pIter, pFor, pRg1, pRg2, pSl, pNo, pPart, pWhile, fuelI, pIsi, pIsiT, tyN, isiOk, isiB, isiAny, pLc, pYes, wipeE, pMeth, qStm, qFld, qPut, qKeep, qRest, pEnum2, enumOf, enumD, sz_eq, *])
theorem law_q7 (s0 : D) (L : List Int) (hd : Dr L) (hL : L.length = 160) (w h x y dx dy m g : Int) (hw : 0 < w) (hh : 0 < h) (hb : f_is_ball [tab w h, bal x y dx dy m] = .ok (.bl true)) (g0 : 0 ≤ g) (m0 : 0 ≤ m) :
    q7_law_0 [.dat s0, .dat (.lst (dI L)), .dat (.int w), .dat (.int h), .dat (tab w h), .dat (bal x y dx dy m), .dat (.lst (rowsM w h x y dx dy 0 40)), .dat (.int (2 * w * 2 * h * g)), .unb, .unb, .unb, .unb] = .rt (.bl true) := by
  obtain ⟨z8, z9, r⟩ := main_loop s0 L hd hL w h x y dx dy m g hw hh hb g0 ((List.range 40).map fun (i : Nat) => (i : Int)) .unb .unb .unb .unb (fun k hk => by
    obtain ⟨i, hi, rfl⟩ := List.mem_map.mp hk
    have := List.mem_range.mp hi
    omega)
  rw [← rg_ints] at r
  have t := q9 s0 L hd hL (.dat (.int w)) (.dat (.int h)) (.dat (tab w h)) (.dat (bal x y dx dy m)) (.dat (.lst (rowsM w h x y dx dy 0 40))) (.dat (.int (2 * w * 2 * h * g))) z8 z9 .unb .unb
  have i5 : fIx (bal x y dx dy m) (.int 5) = .ok (.int m) := rfl
  have hr : rgOk 40 = true := rgOk_of (by decide) (by decide)
  have nn : fIsNot .non .non = .ok (.bl false) := rfl
  by_cases hm : 0 < m
  · have e1 := (early w h x y dx dy m (m - 1) hb (by omega)).1
    have e2 := (early w h x y dx dy m 0 hb hm).2
    clear hb hd hL g0 m0 hw hh
    generalize 2 * w * 2 * h * g = far at *
    generalize D.lst (dI L) = N at *
    generalize bal x y dx dy m = B at *
    generalize tab w h = T at *
    generalize D.lst (rowsM w h x y dx dy 0 40) = R at *
    unfold q7_law_0
    walk_at "dl"
  · clear hb hd hL g0 m0 hw hh
    generalize 2 * w * 2 * h * g = far at *
    generalize D.lst (dI L) = N at *
    generalize bal x y dx dy m = B at *
    generalize tab w h = T at *
    generalize D.lst (rowsM w h x y dx dy 0 40) = R at *
    unfold q7_law_0
    walk_at "dl"
theorem law_k09 (ns : List Int) (hn : ns.length ≤ 63) : f_law [.kl (ns.map .int)] = .ok (.bl true) := by
  obtain ⟨L, hL, hd, e⟩ := law_numbers ns 160 (by decide) (by decide) hn
  have hl : L.length = 160 := by omega
  obtain ⟨z0, _, _, i0⟩ := ixL (L := L) (i := 0) (by decide) (by omega) hd
  obtain ⟨z1, _, _, i1⟩ := ixL (L := L) (i := 1) (by decide) (by omega) hd
  obtain ⟨w, w0, w1, ew⟩ := law_size z0
  obtain ⟨h, h0, h1, eh⟩ := law_size z1
  obtain ⟨x, y, dx, dy, m, x0, x1, y0, y1, hdx, hdy, hz, m0, m1, eb⟩ := law_ball L hd (by omega) w h (by omega) (by omega)
  have hb := is_ball_ok w h x y dx dy m x0 x1 y0 y1 hdx hdy hz m0 (by omega)
  have tm := table_made w h w0 (by omega) h0 (by omega)
  have wk := law_walk_is w h x y dx dy m (by omega) (by omega) x0 x1 y0 y1 hdx hdy
  obtain ⟨g, g0, g1, eg⟩ := law_great L hd 10 (by decide) (by omega)
  have t := law_q7 (.kl (dI ns)) L hd hl w h x y dx dy m g (by omega) (by omega) hb (by omega) m0
  have big : (1000000000000000000000000000000 : Int) < 10 ^ 300 := by decide
  have bn : (1000000000000000000000000000000 : Nat) < 10 ^ 300 := by decide
  have f1 : fMul (.int 2) (.int w) = .ok (.int (2 * w)) := fMul_l (by decide)
  have f2 : fMul (.int (2 * w)) (.int 2) = .ok (.int (2 * w * 2)) := fMul_r (by decide)
  have f3 : fMul (.int (2 * w * 2)) (.int h) = .ok (.int (2 * w * 2 * h)) := fMul_r (by omega)
  have f4 : fMul (.int (2 * w * 2 * h)) (.int g) = .ok (.int (2 * w * 2 * h * g)) := by
    have p1 : 2 * w * 2 * h ≤ 2 * w * 2 * 9 := Int.mul_le_mul_of_nonneg_left h1 (by omega)
    have p2 : 0 < 2 * w * 2 * h := Int.mul_pos (by omega) (by omega)
    exact fMul_l (by omega)
  show runF 12 p_law [.kl (dI ns)] = _
  clear hd hL hl hz x0 x1 y0 y1 hdx hdy m0 m1 hb big bn w0 w1 h0 h1 g0 g1 hn
  generalize 2 * w * 2 * h * g = far at *
  generalize 2 * w * 2 * h = f3' at *
  generalize 2 * w * 2 = f2' at *
  generalize 2 * w = f1' at *
  generalize D.lst (dI L) = N at *
  generalize D.kl (dI ns) = sc at *
  generalize bal x y dx dy m = B at *
  generalize tab w h = T at *
  generalize D.lst (rowsM w h x y dx dy 0 40) = R at *
  unfold runF p_law
  walk_at "dl"
end DL
end

section
set_option linter.all false
set_option maxRecDepth 100000
set_option maxHeartbeats 8000000
namespace DL
open PySem PySem.Spec L2
def top (i : Nat) : Stmt := PySem.Challenge.pw_cushioned_k09_places_and_headings.main.body.getD i (.Pass ⟨0, 0, 0, 0⟩)
abbrev s_require : Stmt := top 8
abbrev s_Table_is_point : Stmt := inClass (top 9) 1
abbrev s_Table_init : Stmt := inClass (top 9) 0
abbrev s_is_name : Stmt := top 13
abbrev s_is_ball : Stmt := top 14
abbrev s_check_ball : Stmt := top 15
abbrev s_phase_of : Stmt := top 17
abbrev s_fold : Stmt := top 18
abbrev s_part_at : Stmt := top 19
abbrev s_step_at : Stmt := top 20
abbrev s_parts_of : Stmt := top 21
abbrev s_place_at : Stmt := top 22
abbrev s_heading_at : Stmt := top 23
abbrev s_law_row : Stmt := top 25
abbrev s_law_numbers : Stmt := top 26
abbrev s_law_is_integer : Stmt := top 27
abbrev s_law_size : Stmt := top 28
abbrev s_law_ball : Stmt := top 29
abbrev s_law_turned : Stmt := top 30
abbrev s_law_walk : Stmt := top 31
abbrev s_law_great : Stmt := top 32
abbrev s_law_greater : Stmt := top 33
abbrev s_law_part : Stmt := top 34
abbrev s_law_where : Stmt := top 35
abbrev s_law_are_parts : Stmt := top 36
abbrev s_law : Stmt := top 37
structure Txt (E : Am) (mg : Str → Option Value) : Prop where
  n_abs : mg "abs" = none
  n_all : mg "all" = none
  n_bool : mg "bool" = none
  n_enumerate : mg "enumerate" = none
  n_int : mg "int" = none
  n_isinstance : mg "isinstance" = none
  n_len : mg "len" = none
  n_max : mg "max" = none
  n_min : mg "min" = none
  n_range : mg "range" = none
  n_tuple : mg "tuple" = none
  c_MOST : Con mg E "MOST" c_MOST
  c_MOST_NAME_CHARS : Con mg E "MOST_NAME_CHARS" c_MOST_NAME_CHARS
  c_MOST_POCKETS : Con mg E "MOST_POCKETS" c_MOST_POCKETS
  c_NAME_CHARS : Con mg E "NAME_CHARS" c_NAME_CHARS
  g_InvalidBall : mg "InvalidBall" = some (.ref (E.cl "InvalidBall"))
  g_InvalidTable : mg "InvalidTable" = some (.ref (E.cl "InvalidTable"))
  g_Table : mg "Table" = some (.ref (E.cl "Table"))
  g_law_are_parts : mg "_law_are_parts" = some (.ref (E.cl "_law_are_parts"))
  g_law_ball : mg "_law_ball" = some (.ref (E.cl "_law_ball"))
  g_law_great : mg "_law_great" = some (.ref (E.cl "_law_great"))
  g_law_greater : mg "_law_greater" = some (.ref (E.cl "_law_greater"))
  g_law_is_integer : mg "_law_is_integer" = some (.ref (E.cl "_law_is_integer"))
  g_law_numbers : mg "_law_numbers" = some (.ref (E.cl "_law_numbers"))
  g_law_part : mg "_law_part" = some (.ref (E.cl "_law_part"))
  g_law_row : mg "_law_row" = some (.ref (E.cl "_law_row"))
  g_law_size : mg "_law_size" = some (.ref (E.cl "_law_size"))
  g_law_turned : mg "_law_turned" = some (.ref (E.cl "_law_turned"))
  g_law_walk : mg "_law_walk" = some (.ref (E.cl "_law_walk"))
  g_law_where : mg "_law_where" = some (.ref (E.cl "_law_where"))
  g_check_ball : mg "check_ball" = some (.ref (E.cl "check_ball"))
  g_fold : mg "fold" = some (.ref (E.cl "fold"))
  g_heading_at : mg "heading_at" = some (.ref (E.cl "heading_at"))
  g_is_ball : mg "is_ball" = some (.ref (E.cl "is_ball"))
  g_is_name : mg "is_name" = some (.ref (E.cl "is_name"))
  g_part_at : mg "part_at" = some (.ref (E.cl "part_at"))
  g_parts_of : mg "parts_of" = some (.ref (E.cl "parts_of"))
  g_phase_of : mg "phase_of" = some (.ref (E.cl "phase_of"))
  g_place_at : mg "place_at" = some (.ref (E.cl "place_at"))
  g_require : mg "require" = some (.ref (E.cl "require"))
  g_step_at : mg "step_at" = some (.ref (E.cl "step_at"))
  cls_Table : ClsOk E "Table" ["width", "height", "pockets"]
  m_Table_is_point : Meth E.K (E.cl "Table") "is_point" (He.ma E.K (E.cl "Table") "is_point")
  mk_Table : Mk E.K (E.cl "Table") (He.ma E.K (E.cl "Table") "__init__")
  df_Table_0 : repB E.K (.tup []) (.ref (He.dflAt ("Table", some "__init__") 0 E.K)) = true
  x_InvalidBall : ExcX E "InvalidBall"
  x_InvalidTable : ExcX E "InvalidTable"
section
variable {P : Program} {w : World} {E : Am} {mg : Str → Option Value} {base : Heap}
theorem sc_require : FnScope ["holds"] ["holds"] (defScope s_require) := ⟨rfl, rfl, rfl, by decide +kernel, rfl, by decide +kernel, by decide +kernel⟩
theorem ok_require (T : Txt E mg) (hF : ∃ fd, FunD E.K "require" "require" (defArgs s_require) (defBody s_require) (defScope s_require) [] [] (E.cl "require") fd) : FnX P w E mg base 1 (E.cl "require") ["holds"] f_require := by
  obtain ⟨fd, F⟩ := hF
  have hB : Binds E.K fd ["holds"] [] := F.bindsN (fun _ _ _ _ _ _ us hl => match us, hl with | [_], _ => rfl)
  refine fnX_mk (m := 1) (k := 0) (p := p_require) F sc_require rfl rfl hB (fun cdv A outer s H Ex hr => ?_)
  have c := bd_ctx (P := P) (w := w) (E := E) (mg := mg) (base := base) (N := ["holds"]) (Ex := Ex) (H := H) (outer := outer) hr
  have nd : (["holds"] : List Str).Nodup := sc_require.nd
  exact (xss_one (xs_if (xt_not (zt_val (XE.loose (xe_var fun _ => pv 0)) c))
    (xss_one (zs_raise c T.x_InvalidTable (fun _ => T.g_InvalidTable) (fun _ => rfl)))
    xss_nil))
theorem sc_Table_is_point : FnScope ["self", "point"] ["self", "point"] (defScope s_Table_is_point) := ⟨rfl, rfl, rfl, by decide +kernel, rfl, by decide +kernel, by decide +kernel⟩
theorem ok_Table_is_point (T : Txt E mg) (hF : ∃ fd, FunD E.K "is_point" "Table.is_point" (defArgs s_Table_is_point) (defBody s_Table_is_point) (defScope s_Table_is_point) [] [] (He.ma E.K (E.cl "Table") "is_point") fd) : FnX P w E mg base 1 (He.ma E.K (E.cl "Table") "is_point") ["self", "point"] f_Table_is_point := by
  obtain ⟨fd, F⟩ := hF
  have hB : Binds E.K fd ["self", "point"] [] := F.bindsN (fun _ _ _ _ _ _ us hl => match us, hl with | [_, _], _ => rfl)
  refine fnX_mk (m := 2) (k := 0) (p := p_Table_is_point) F sc_Table_is_point rfl rfl hB (fun cdv A outer s H Ex hr => ?_)
  have c := bd_ctx (P := P) (w := w) (E := E) (mg := mg) (base := base) (N := ["self", "point"]) (Ex := Ex) (H := H) (outer := outer) hr
  have nd : (["self", "point"] : List Str).Nodup := sc_Table_is_point.nd
  exact (xss_one (xs_ret (xe_and (ye_chain (cmp_le c) (cmp_le c) (XE.loose xe_int) (XE.loose (xe_ix c (XE.loose (xe_var fun _ => pv 1)) (XE.loose xe_int))) (XE.loose (xe_fld c T.cls_Table (by decide) (XE.loose (xe_var fun _ => pv 0))))) (xe_one (ye_chain (cmp_le c) (cmp_le c) (XE.loose xe_int) (XE.loose (xe_ix c (XE.loose (xe_var fun _ => pv 1)) (XE.loose xe_int))) (XE.loose (xe_fld c T.cls_Table (by decide) (XE.loose (xe_var fun _ => pv 0)))))))))
theorem sc_Table_init : FnScope ["self", "width", "height", "pockets", "point", "number"] ["self", "width", "height", "pockets"] (defScope s_Table_init) := ⟨rfl, rfl, rfl, by decide +kernel, rfl, by decide +kernel, by decide +kernel⟩
theorem ok_Table_init (T : Txt E mg) (hF : ∃ fd, FunD E.K "__init__" "Table.__init__" (defArgs s_Table_init) (defBody s_Table_init) (defScope s_Table_init) [V.ref (He.dflAt ("Table", some "__init__") 0 E.K)] [] (He.ma E.K (E.cl "Table") "__init__") fd) (h_require : FnX P w E mg base 1 (E.cl "require") ["holds"] f_require) (h_Table_is_point : FnX P w E mg base 1 (He.ma E.K (E.cl "Table") "is_point") ["self", "point"] f_Table_is_point) : InX P w E mg base 2 "Table" 3 [.tup []] f_Table_init := by
  obtain ⟨fd_require, G_require, B_require, K_require⟩ := h_require.ex
  obtain ⟨fd_Table_is_point, G_Table_is_point, B_Table_is_point, K_Table_is_point⟩ := h_Table_is_point.ex
  obtain ⟨fd, F⟩ := hF
  have hB : Binds E.K fd ["self", "width", "height", "pockets"] [] := binds_nil (F.binds1 4 1 (by simp) rfl fun T kV doc pm an cdv ct us its hu hi => match us, hu, its, hi with | [_, _, _, _], _, [_], _ => ⟨_, rfl, rfl⟩)
  have hB2 := F.binds1 (ps := ["self", "width", "height", "pockets"]) 3 0 (by simp) rfl fun T kV doc pm an cdv ct us its hu hi => match us, hu, its, hi with | [_, _, _], _, [_], _ => ⟨_, rfl, rfl⟩
  refine inX_mk (m := 6) (k := 1) (p := p_Table_init) F sc_Table_init rfl rfl rfl T.mk_Table hB (fun F => .cons (dfl_rep T.df_Table_0 F) (rfl)) hB2 (fun cdv A outer s H Ex hr => ?_)
  have c := bd_ctx (P := P) (w := w) (E := E) (mg := mg) (base := base) (N := ["self", "width", "height", "pockets", "point", "number"]) (Ex := Ex) (H := H) (outer := outer) hr
  have nd : (["self", "width", "height", "pockets", "point", "number"] : List Str).Nodup := sc_Table_init.nd
  exact (xi_stm (xs_expr (xe_call c (fun _ => G_require) (by decide) (fun _ => rfl) (fun _ => T.g_require) K_require B_require .nil (fun _ => rfl) (xa_cons (xe_and (ye_chain (cmp_le c) (cmp_le c) (XE.loose xe_int) (XE.loose (xe_var fun _ => pv 1)) (XE.loose (xe_con T.c_MOST (fun _ => rfl) (fun _ => rfl)))) (xe_one (ye_chain (cmp_le c) (cmp_le c) (XE.loose xe_int) (XE.loose (xe_var fun _ => pv 2)) (XE.loose (xe_con T.c_MOST (fun _ => rfl) (fun _ => rfl)))))) xa_nil)))
    (xi_fld c T.cls_Table (by decide) (fun _ => pv 0) (xe_var fun _ => pv 1)
    (xi_fld c T.cls_Table (by decide) (fun _ => pv 0) (xe_var fun _ => pv 2)
    (xi_stm (xs_expr (xe_call c (fun _ => G_require) (by decide) (fun _ => rfl) (fun _ => T.g_require) K_require B_require .nil (fun _ => rfl) (xa_cons (xe_and (ye_cmp (cmp_le c) (XE.loose (ye_len c T.n_len (fun _ => rfl) (fun _ => rfl) (xal_cons (XE.loose (xe_var fun _ => pv 3)) xal_nil))) (XE.loose (xe_con T.c_MOST_POCKETS (fun _ => rfl) (fun _ => rfl))) (nomark _)) (xe_one (ye_all c T.n_all (fun _ => rfl) (fun _ => rfl) (xal_cons (XE.loose (XN.xe (xn_lc c (fun _ => nd) (xlc (own := ([("point", 4)] : List (Str × Nat))) c (xi_seq c (xe_var fun _ => pv 3)) (xg_name fun _ => pg_name (i := 4) nd rfl (by first | exact Or.inl rfl | exact Or.inr rfl)) (by decide) xts_nil (ye_cmp (cmp_eq (Ctx.blk c _)) (XE.loose (ye_len (Ctx.blk c _) T.n_len (fun _ => rfl) (fun _ => rfl) (xal_cons (XE.loose (xe_var fun _ => pv 4)) xal_nil))) (XE.loose xe_int) (nomark _))) (fun _ => blkOk_by (N := ["self", "width", "height", "pockets", "point", "number"]) (sc := defScope s_Table_init) (by decide +kernel))))) xal_nil)))) xa_nil)))
    (xi_fld c T.cls_Table (by decide) (fun _ => pv 0) (ye_tuple c T.n_tuple (fun _ => rfl) (fun _ => rfl) (xal_cons (XE.loose (XN.xe (xn_lc c (fun _ => nd) (xlc (own := ([("point", 4)] : List (Str × Nat))) c (xi_seq c (xe_var fun _ => pv 3)) (xg_name fun _ => pg_name (i := 4) nd rfl (by first | exact Or.inl rfl | exact Or.inr rfl)) (by decide) xts_nil (ye_tuple (Ctx.blk c _) T.n_tuple (fun _ => rfl) (fun _ => rfl) (xal_cons (XE.loose (xe_var fun _ => pv 4)) xal_nil))) (fun _ => blkOk_by (N := ["self", "width", "height", "pockets", "point", "number"]) (sc := defScope s_Table_init) (by decide +kernel))))) xal_nil))
    (xi_rest (xss_one (xs_for c (xi_enum2 c (fun _ => rfl) (fun _ => T.n_enumerate) (xa_cons (xe_fld c T.cls_Table (by decide) (XE.loose (xe_var fun _ => pv 0))) xa_nil)) (xg_tup c (xgs_cons (xg_name fun _ => pg_name (i := 5) nd rfl (by first | exact Or.inl rfl | exact Or.inr rfl)) (xgs_cons (xg_name fun _ => pg_name (i := 4) nd rfl (by first | exact Or.inl rfl | exact Or.inr rfl)) xgs_nil)) (gs_lenS (gs_lenS gs_len0)))
    (xss_one (xs_expr (xe_call c (fun _ => G_require) (by decide) (fun _ => rfl) (fun _ => T.g_require) K_require B_require .nil (fun _ => rfl) (xa_cons (xe_and (xe_meth c T.cls_Table T.m_Table_is_point (fun _ => G_Table_is_point) (by decide) B_Table_is_point (xe_var fun _ => pv 0) (xa_cons (xe_var fun _ => pv 4) xa_nil)) (xe_one (ye_cmp (cmp_notIn c) (XE.loose (xe_var fun _ => pv 4)) (XE.loose (xe_slice c (XE.loose (xe_fld c T.cls_Table (by decide) (XE.loose (xe_var fun _ => pv 0)))) xo_none (xo_some (XE.loose (xe_var fun _ => pv 5))))) (by rfl)))) xa_nil))))))))))))
theorem sc_is_name : FnScope ["text", "char"] ["text"] (defScope s_is_name) := ⟨rfl, rfl, rfl, by decide +kernel, rfl, by decide +kernel, by decide +kernel⟩
theorem ok_is_name (T : Txt E mg) (hF : ∃ fd, FunD E.K "is_name" "is_name" (defArgs s_is_name) (defBody s_is_name) (defScope s_is_name) [] [] (E.cl "is_name") fd) : FnX P w E mg base 1 (E.cl "is_name") ["text"] f_is_name := by
  obtain ⟨fd, F⟩ := hF
  have hB : Binds E.K fd ["text"] [] := F.bindsN (fun _ _ _ _ _ _ us hl => match us, hl with | [_], _ => rfl)
  refine fnX_mk (m := 2) (k := 0) (p := p_is_name) F sc_is_name rfl rfl hB (fun cdv A outer s H Ex hr => ?_)
  have c := bd_ctx (P := P) (w := w) (E := E) (mg := mg) (base := base) (N := ["text", "char"]) (Ex := Ex) (H := H) (outer := outer) hr
  have nd : (["text", "char"] : List Str).Nodup := sc_is_name.nd
  exact (xss_cons (xs_if (xw_pt (xw_or (xt_not (zt_chain (cmp_le c) (cmp_le c) (XE.loose xe_int) (XE.loose (ye_len c T.n_len (fun _ => rfl) (fun _ => rfl) (xal_cons (XE.loose (xe_var fun _ => pv 0)) xal_nil))) (XE.loose (xe_con T.c_MOST_NAME_CHARS (fun _ => rfl) (fun _ => rfl))))) (xw_or1 (zt_cmp (cmp_in c) (XE.loose (xe_ix c (XE.loose (xe_var fun _ => pv 0)) (XE.loose xe_int))) (XE.loose xe_str) (by rfl)))))
    (xss_one (xs_ret xe_bl))
    xss_nil)
    (xss_one (xs_ret (ye_all c T.n_all (fun _ => rfl) (fun _ => rfl) (xal_cons (XE.loose (XN.xe (xn_lc c (fun _ => nd) (xlc (own := ([("char", 1)] : List (Str × Nat))) c (xi_seq c (xe_var fun _ => pv 0)) (xg_name fun _ => pg_name (i := 1) nd rfl (by first | exact Or.inl rfl | exact Or.inr rfl)) (by decide) xts_nil (ye_cmp (cmp_in (Ctx.blk c _)) (XE.loose (xe_var fun _ => pv 1)) (XE.loose (xe_con T.c_NAME_CHARS (fun _ => rfl) (fun _ => rfl))) (by rfl))) (fun _ => blkOk_by (N := ["text", "char"]) (sc := defScope s_is_name) (by decide +kernel))))) xal_nil)))))
theorem sc_is_ball : FnScope ["table", "ball", "_", "x", "y", "dx", "dy", "minute"] ["table", "ball"] (defScope s_is_ball) := ⟨rfl, rfl, rfl, by decide +kernel, rfl, by decide +kernel, by decide +kernel⟩
theorem ok_is_ball (T : Txt E mg) (hF : ∃ fd, FunD E.K "is_ball" "is_ball" (defArgs s_is_ball) (defBody s_is_ball) (defScope s_is_ball) [] [] (E.cl "is_ball") fd) (h_is_name : FnX P w E mg base 1 (E.cl "is_name") ["text"] f_is_name) (h_Table_is_point : FnX P w E mg base 1 (He.ma E.K (E.cl "Table") "is_point") ["self", "point"] f_Table_is_point) : FnX P w E mg base 2 (E.cl "is_ball") ["table", "ball"] f_is_ball := by
  obtain ⟨fd_is_name, G_is_name, B_is_name, K_is_name⟩ := h_is_name.ex
  obtain ⟨fd_Table_is_point, G_Table_is_point, B_Table_is_point, K_Table_is_point⟩ := h_Table_is_point.ex
  obtain ⟨fd, F⟩ := hF
  have hB : Binds E.K fd ["table", "ball"] [] := F.bindsN (fun _ _ _ _ _ _ us hl => match us, hl with | [_, _], _ => rfl)
  refine fnX_mk (m := 8) (k := 1) (p := p_is_ball) F sc_is_ball rfl rfl hB (fun cdv A outer s H Ex hr => ?_)
  have c := bd_ctx (P := P) (w := w) (E := E) (mg := mg) (base := base) (N := ["table", "ball", "_", "x", "y", "dx", "dy", "minute"]) (Ex := Ex) (H := H) (outer := outer) hr
  have nd : (["table", "ball", "_", "x", "y", "dx", "dy", "minute"] : List Str).Nodup := sc_is_ball.nd
  exact (xss_cons (xs_if (xw_pt (xw_or (zt_cmp (cmp_ne c) (XE.loose (ye_len c T.n_len (fun _ => rfl) (fun _ => rfl) (xal_cons (XE.loose (xe_var fun _ => pv 1)) xal_nil))) (XE.loose xe_int) (nomark _)) (xw_or1 (xt_not (zt_val (XE.loose (xe_call c (fun _ => G_is_name) (by decide) (fun _ => rfl) (fun _ => T.g_is_name) K_is_name B_is_name .nil (fun _ => rfl) (xa_cons (xe_ix c (XE.loose (xe_var fun _ => pv 1)) (XE.loose xe_int)) xa_nil))) c)))))
    (xss_one (xs_ret xe_bl))
    xss_nil)
    (xss_cons (xs_asg (xe_var fun _ => pv 1) (xg_tup c (xgs_cons (xg_name fun _ => pg_name (i := 2) nd rfl (by first | exact Or.inl rfl | exact Or.inr rfl)) (xgs_cons (xg_name fun _ => pg_name (i := 3) nd rfl (by first | exact Or.inl rfl | exact Or.inr rfl)) (xgs_cons (xg_name fun _ => pg_name (i := 4) nd rfl (by first | exact Or.inl rfl | exact Or.inr rfl)) (xgs_cons (xg_name fun _ => pg_name (i := 5) nd rfl (by first | exact Or.inl rfl | exact Or.inr rfl)) (xgs_cons (xg_name fun _ => pg_name (i := 6) nd rfl (by first | exact Or.inl rfl | exact Or.inr rfl)) (xgs_cons (xg_name fun _ => pg_name (i := 7) nd rfl (by first | exact Or.inl rfl | exact Or.inr rfl)) xgs_nil)))))) (gs_lenS (gs_lenS (gs_lenS (gs_lenS (gs_lenS (gs_lenS gs_len0))))))))
    (xss_cons (xs_if (xw_pt (xw_or (xt_not (zt_val (XE.loose (xe_meth c T.cls_Table T.m_Table_is_point (fun _ => G_Table_is_point) (by decide) B_Table_is_point (xe_var fun _ => pv 0) (xa_cons (xe_tup (xa_cons (xe_var fun _ => pv 3) (xa_cons (xe_var fun _ => pv 4) xa_nil))) xa_nil))) c)) (xw_or1 (xt_not (zt_chain (cmp_le c) (cmp_le c) (XE.loose xe_int) (XE.loose (xe_var fun _ => pv 7)) (XE.loose (xe_con T.c_MOST (fun _ => rfl) (fun _ => rfl))))))))
    (xss_one (xs_ret xe_bl))
    xss_nil)
    (xss_one (xs_ret (xe_and (ye_cmp (cmp_in c) (XE.loose (xe_var fun _ => pv 5)) (XE.loose (xe_tup (xa_cons (xe_neg (XE.loose xe_int)) (xa_cons xe_int (xa_cons xe_int xa_nil))))) (by rfl)) (xe_and (ye_cmp (cmp_in c) (XE.loose (xe_var fun _ => pv 6)) (XE.loose (xe_tup (xa_cons (xe_neg (XE.loose xe_int)) (xa_cons xe_int (xa_cons xe_int xa_nil))))) (by rfl)) (xe_one (ye_cmp (cmp_ne c) (XE.loose (xe_tup (xa_cons (xe_var fun _ => pv 5) (xa_cons (xe_var fun _ => pv 6) xa_nil)))) (XE.loose (xe_tup (xa_cons xe_int (xa_cons xe_int xa_nil)))) (nomark _))))))))))
theorem sc_check_ball : FnScope ["table", "ball"] ["table", "ball"] (defScope s_check_ball) := ⟨rfl, rfl, rfl, by decide +kernel, rfl, by decide +kernel, by decide +kernel⟩
theorem ok_check_ball (T : Txt E mg) (hF : ∃ fd, FunD E.K "check_ball" "check_ball" (defArgs s_check_ball) (defBody s_check_ball) (defScope s_check_ball) [] [] (E.cl "check_ball") fd) (h_is_ball : FnX P w E mg base 2 (E.cl "is_ball") ["table", "ball"] f_is_ball) : FnX P w E mg base 3 (E.cl "check_ball") ["table", "ball"] f_check_ball := by
  obtain ⟨fd_is_ball, G_is_ball, B_is_ball, K_is_ball⟩ := h_is_ball.ex
  obtain ⟨fd, F⟩ := hF
  have hB : Binds E.K fd ["table", "ball"] [] := F.bindsN (fun _ _ _ _ _ _ us hl => match us, hl with | [_, _], _ => rfl)
  refine fnX_mk (m := 2) (k := 2) (p := p_check_ball) F sc_check_ball rfl rfl hB (fun cdv A outer s H Ex hr => ?_)
  have c := bd_ctx (P := P) (w := w) (E := E) (mg := mg) (base := base) (N := ["table", "ball"]) (Ex := Ex) (H := H) (outer := outer) hr
  have nd : (["table", "ball"] : List Str).Nodup := sc_check_ball.nd
  exact (xss_one (xs_if (xt_not (zt_val (XE.loose (xe_call c (fun _ => G_is_ball) (by decide) (fun _ => rfl) (fun _ => T.g_is_ball) K_is_ball B_is_ball .nil (fun _ => rfl) (xa_cons (xe_var fun _ => pv 0) (xa_cons (xe_var fun _ => pv 1) xa_nil)))) c))
    (xss_one (zs_raise c T.x_InvalidBall (fun _ => T.g_InvalidBall) (fun _ => rfl)))
    xss_nil))
theorem sc_phase_of : FnScope ["size", "place", "step"] ["size", "place", "step"] (defScope s_phase_of) := ⟨rfl, rfl, rfl, by decide +kernel, rfl, by decide +kernel, by decide +kernel⟩
theorem ok_phase_of (T : Txt E mg) (hF : ∃ fd, FunD E.K "phase_of" "phase_of" (defArgs s_phase_of) (defBody s_phase_of) (defScope s_phase_of) [] [] (E.cl "phase_of") fd) : FnX P w E mg base 1 (E.cl "phase_of") ["size", "place", "step"] f_phase_of := by
  obtain ⟨fd, F⟩ := hF
  have hB : Binds E.K fd ["size", "place", "step"] [] := F.bindsN (fun _ _ _ _ _ _ us hl => match us, hl with | [_, _, _], _ => rfl)
  refine fnX_mk (m := 3) (k := 0) (p := p_phase_of) F sc_phase_of rfl rfl hB (fun cdv A outer s H Ex hr => ?_)
  have c := bd_ctx (P := P) (w := w) (E := E) (mg := mg) (base := base) (N := ["size", "place", "step"]) (Ex := Ex) (H := H) (outer := outer) hr
  have nd : (["size", "place", "step"] : List Str).Nodup := sc_phase_of.nd
  exact (xss_one (xs_ret (xe_if (zt_cmp (cmp_eq c) (XE.loose (xe_var fun _ => pv 2)) (XE.loose xe_int) (nomark _)) (xe_var fun _ => pv 1) (xe_mod c (XE.loose (xe_neg (XE.loose (xe_var fun _ => pv 1)))) (XE.loose (xe_mul c (XE.loose xe_int) (XE.loose (xe_var fun _ => pv 0))))))))
theorem sc_fold : FnScope ["size", "phase", "rest"] ["size", "phase"] (defScope s_fold) := ⟨rfl, rfl, rfl, by decide +kernel, rfl, by decide +kernel, by decide +kernel⟩
theorem ok_fold (T : Txt E mg) (hF : ∃ fd, FunD E.K "fold" "fold" (defArgs s_fold) (defBody s_fold) (defScope s_fold) [] [] (E.cl "fold") fd) : FnX P w E mg base 1 (E.cl "fold") ["size", "phase"] f_fold := by
  obtain ⟨fd, F⟩ := hF
  have hB : Binds E.K fd ["size", "phase"] [] := F.bindsN (fun _ _ _ _ _ _ us hl => match us, hl with | [_, _], _ => rfl)
  refine fnX_mk (m := 3) (k := 0) (p := p_fold) F sc_fold rfl rfl hB (fun cdv A outer s H Ex hr => ?_)
  have c := bd_ctx (P := P) (w := w) (E := E) (mg := mg) (base := base) (N := ["size", "phase", "rest"]) (Ex := Ex) (H := H) (outer := outer) hr
  have nd : (["size", "phase", "rest"] : List Str).Nodup := sc_fold.nd
  exact (xss_cons (xs_set ⟨fun _ => nd, fun _ => rfl, fun _ => (by first | exact Or.inl rfl | exact Or.inr rfl), fun _ => Or.inl rfl⟩ (xe_mod c (XE.loose (xe_var fun _ => pv 1)) (XE.loose (xe_mul c (XE.loose xe_int) (XE.loose (xe_var fun _ => pv 0))))))
    (xss_one (xs_ret (ye_min2 c T.n_min (fun _ => rfl) (fun _ => rfl) (xal_cons (XE.loose (xe_var fun _ => pv 2)) (xal_cons (XE.loose (xe_sub c (XE.loose (xe_mul c (XE.loose xe_int) (XE.loose (xe_var fun _ => pv 0)))) (XE.loose (xe_var fun _ => pv 2)))) xal_nil))))))
theorem sc_part_at : FnScope ["size", "place", "step", "passed"] ["size", "place", "step", "passed"] (defScope s_part_at) := ⟨rfl, rfl, rfl, by decide +kernel, rfl, by decide +kernel, by decide +kernel⟩
theorem ok_part_at (T : Txt E mg) (hF : ∃ fd, FunD E.K "part_at" "part_at" (defArgs s_part_at) (defBody s_part_at) (defScope s_part_at) [] [] (E.cl "part_at") fd) (h_fold : FnX P w E mg base 1 (E.cl "fold") ["size", "phase"] f_fold) (h_phase_of : FnX P w E mg base 1 (E.cl "phase_of") ["size", "place", "step"] f_phase_of) : FnX P w E mg base 2 (E.cl "part_at") ["size", "place", "step", "passed"] f_part_at := by
  obtain ⟨fd_fold, G_fold, B_fold, K_fold⟩ := h_fold.ex
  obtain ⟨fd_phase_of, G_phase_of, B_phase_of, K_phase_of⟩ := h_phase_of.ex
  obtain ⟨fd, F⟩ := hF
  have hB : Binds E.K fd ["size", "place", "step", "passed"] [] := F.bindsN (fun _ _ _ _ _ _ us hl => match us, hl with | [_, _, _, _], _ => rfl)
  refine fnX_mk (m := 4) (k := 1) (p := p_part_at) F sc_part_at rfl rfl hB (fun cdv A outer s H Ex hr => ?_)
  have c := bd_ctx (P := P) (w := w) (E := E) (mg := mg) (base := base) (N := ["size", "place", "step", "passed"]) (Ex := Ex) (H := H) (outer := outer) hr
  have nd : (["size", "place", "step", "passed"] : List Str).Nodup := sc_part_at.nd
  exact (xss_cons (xs_if (zt_cmp (cmp_eq c) (XE.loose (xe_var fun _ => pv 2)) (XE.loose xe_int) (nomark _))
    (xss_one (xs_ret (xe_var fun _ => pv 1)))
    xss_nil)
    (xss_one (xs_ret (xe_call c (fun _ => G_fold) (by decide) (fun _ => rfl) (fun _ => T.g_fold) K_fold B_fold .nil (fun _ => rfl) (xa_cons (xe_var fun _ => pv 0) (xa_cons (xe_add c (XE.loose (xe_call c (fun _ => G_phase_of) (by decide) (fun _ => rfl) (fun _ => T.g_phase_of) K_phase_of B_phase_of .nil (fun _ => rfl) (xa_cons (xe_var fun _ => pv 0) (xa_cons (xe_var fun _ => pv 1) (xa_cons (xe_var fun _ => pv 2) xa_nil))))) (XE.loose (xe_var fun _ => pv 3))) xa_nil))))))
theorem sc_step_at : FnScope ["size", "place", "step", "passed"] ["size", "place", "step", "passed"] (defScope s_step_at) := ⟨rfl, rfl, rfl, by decide +kernel, rfl, by decide +kernel, by decide +kernel⟩
theorem ok_step_at (T : Txt E mg) (hF : ∃ fd, FunD E.K "step_at" "step_at" (defArgs s_step_at) (defBody s_step_at) (defScope s_step_at) [] [] (E.cl "step_at") fd) (h_phase_of : FnX P w E mg base 1 (E.cl "phase_of") ["size", "place", "step"] f_phase_of) : FnX P w E mg base 2 (E.cl "step_at") ["size", "place", "step", "passed"] f_step_at := by
  obtain ⟨fd_phase_of, G_phase_of, B_phase_of, K_phase_of⟩ := h_phase_of.ex
  obtain ⟨fd, F⟩ := hF
  have hB : Binds E.K fd ["size", "place", "step", "passed"] [] := F.bindsN (fun _ _ _ _ _ _ us hl => match us, hl with | [_, _, _, _], _ => rfl)
  refine fnX_mk (m := 4) (k := 1) (p := p_step_at) F sc_step_at rfl rfl hB (fun cdv A outer s H Ex hr => ?_)
  have c := bd_ctx (P := P) (w := w) (E := E) (mg := mg) (base := base) (N := ["size", "place", "step", "passed"]) (Ex := Ex) (H := H) (outer := outer) hr
  have nd : (["size", "place", "step", "passed"] : List Str).Nodup := sc_step_at.nd
  exact (xss_cons (xs_if (zt_cmp (cmp_eq c) (XE.loose (xe_var fun _ => pv 2)) (XE.loose xe_int) (nomark _))
    (xss_one (xs_ret xe_int))
    xss_nil)
    (xss_one (xs_ret (xe_if (zt_cmp (cmp_lt c) (XE.loose (xe_mod c (XE.loose (xe_add c (XE.loose (xe_call c (fun _ => G_phase_of) (by decide) (fun _ => rfl) (fun _ => T.g_phase_of) K_phase_of B_phase_of .nil (fun _ => rfl) (xa_cons (xe_var fun _ => pv 0) (xa_cons (xe_var fun _ => pv 1) (xa_cons (xe_var fun _ => pv 2) xa_nil))))) (XE.loose (xe_var fun _ => pv 3)))) (XE.loose (xe_mul c (XE.loose xe_int) (XE.loose (xe_var fun _ => pv 0)))))) (XE.loose (xe_var fun _ => pv 0)) (nomark _)) xe_int (xe_neg (XE.loose xe_int))))))
theorem sc_parts_of : FnScope ["table", "ball"] ["table", "ball"] (defScope s_parts_of) := ⟨rfl, rfl, rfl, by decide +kernel, rfl, by decide +kernel, by decide +kernel⟩
theorem ok_parts_of (T : Txt E mg) (hF : ∃ fd, FunD E.K "parts_of" "parts_of" (defArgs s_parts_of) (defBody s_parts_of) (defScope s_parts_of) [] [] (E.cl "parts_of") fd) : FnX P w E mg base 1 (E.cl "parts_of") ["table", "ball"] f_parts_of := by
  obtain ⟨fd, F⟩ := hF
  have hB : Binds E.K fd ["table", "ball"] [] := F.bindsN (fun _ _ _ _ _ _ us hl => match us, hl with | [_, _], _ => rfl)
  refine fnX_mk (m := 2) (k := 0) (p := p_parts_of) F sc_parts_of rfl rfl hB (fun cdv A outer s H Ex hr => ?_)
  have c := bd_ctx (P := P) (w := w) (E := E) (mg := mg) (base := base) (N := ["table", "ball"]) (Ex := Ex) (H := H) (outer := outer) hr
  have nd : (["table", "ball"] : List Str).Nodup := sc_parts_of.nd
  exact (xss_one (xs_ret (xe_tup (xa_cons (xe_tup (xa_cons (xe_fld c T.cls_Table (by decide) (XE.loose (xe_var fun _ => pv 0))) (xa_cons (xe_ix c (XE.loose (xe_var fun _ => pv 1)) (XE.loose xe_int)) (xa_cons (xe_ix c (XE.loose (xe_var fun _ => pv 1)) (XE.loose xe_int)) xa_nil)))) (xa_cons (xe_tup (xa_cons (xe_fld c T.cls_Table (by decide) (XE.loose (xe_var fun _ => pv 0))) (xa_cons (xe_ix c (XE.loose (xe_var fun _ => pv 1)) (XE.loose xe_int)) (xa_cons (xe_ix c (XE.loose (xe_var fun _ => pv 1)) (XE.loose xe_int)) xa_nil)))) xa_nil)))))
theorem sc_place_at : FnScope ["table", "ball", "minute", "size", "place", "step"] ["table", "ball", "minute"] (defScope s_place_at) := ⟨rfl, rfl, rfl, by decide +kernel, rfl, by decide +kernel, by decide +kernel⟩
theorem ok_place_at (T : Txt E mg) (hF : ∃ fd, FunD E.K "place_at" "place_at" (defArgs s_place_at) (defBody s_place_at) (defScope s_place_at) [] [] (E.cl "place_at") fd) (h_check_ball : FnX P w E mg base 3 (E.cl "check_ball") ["table", "ball"] f_check_ball) (h_parts_of : FnX P w E mg base 1 (E.cl "parts_of") ["table", "ball"] f_parts_of) (h_part_at : FnX P w E mg base 2 (E.cl "part_at") ["size", "place", "step", "passed"] f_part_at) : FnX P w E mg base 4 (E.cl "place_at") ["table", "ball", "minute"] f_place_at := by
  obtain ⟨fd_check_ball, G_check_ball, B_check_ball, K_check_ball⟩ := h_check_ball.ex
  obtain ⟨fd_parts_of, G_parts_of, B_parts_of, K_parts_of⟩ := h_parts_of.ex
  obtain ⟨fd_part_at, G_part_at, B_part_at, K_part_at⟩ := h_part_at.ex
  obtain ⟨fd, F⟩ := hF
  have hB : Binds E.K fd ["table", "ball", "minute"] [] := F.bindsN (fun _ _ _ _ _ _ us hl => match us, hl with | [_, _, _], _ => rfl)
  refine fnX_mk (m := 6) (k := 3) (p := p_place_at) F sc_place_at rfl rfl hB (fun cdv A outer s H Ex hr => ?_)
  have c := bd_ctx (P := P) (w := w) (E := E) (mg := mg) (base := base) (N := ["table", "ball", "minute", "size", "place", "step"]) (Ex := Ex) (H := H) (outer := outer) hr
  have nd : (["table", "ball", "minute", "size", "place", "step"] : List Str).Nodup := sc_place_at.nd
  exact (xss_cons (xs_expr (xe_call c (fun _ => G_check_ball) (by decide) (fun _ => rfl) (fun _ => T.g_check_ball) K_check_ball B_check_ball .nil (fun _ => rfl) (xa_cons (xe_var fun _ => pv 0) (xa_cons (xe_var fun _ => pv 1) xa_nil))))
    (xss_cons (xs_if (zt_cmp (cmp_lt c) (XE.loose (xe_var fun _ => pv 2)) (XE.loose (xe_ix c (XE.loose (xe_var fun _ => pv 1)) (XE.loose xe_int))) (nomark _))
    (xss_one (xs_ret xe_non))
    xss_nil)
    (xss_one (xs_ret (ye_tuple c T.n_tuple (fun _ => rfl) (fun _ => rfl) (xal_cons (XE.loose (XN.xe (xn_lc c (fun _ => nd) (xlc (own := ([("size", 3), ("place", 4), ("step", 5)] : List (Str × Nat))) c (xi_seq c (xe_call c (fun _ => G_parts_of) (by decide) (fun _ => rfl) (fun _ => T.g_parts_of) K_parts_of B_parts_of .nil (fun _ => rfl) (xa_cons (xe_var fun _ => pv 0) (xa_cons (xe_var fun _ => pv 1) xa_nil)))) (xg_tup (Ctx.blk c _) (xgs_cons (xg_name fun _ => pg_name (i := 3) nd rfl (by first | exact Or.inl rfl | exact Or.inr rfl)) (xgs_cons (xg_name fun _ => pg_name (i := 4) nd rfl (by first | exact Or.inl rfl | exact Or.inr rfl)) (xgs_cons (xg_name fun _ => pg_name (i := 5) nd rfl (by first | exact Or.inl rfl | exact Or.inr rfl)) xgs_nil))) (gs_lenS (gs_lenS (gs_lenS gs_len0)))) (by decide) xts_nil (xe_call (Ctx.blk c _) (fun _ => G_part_at) (by decide) (fun _ => rfl) (fun _ => T.g_part_at) K_part_at B_part_at .nil (fun _ => rfl) (xa_cons (xe_var fun _ => pv 3) (xa_cons (xe_var fun _ => pv 4) (xa_cons (xe_var fun _ => pv 5) (xa_cons (xe_sub (Ctx.blk c _) (XE.loose (xe_var fun _ => pv 2)) (XE.loose (xe_ix (Ctx.blk c _) (XE.loose (xe_var fun _ => pv 1)) (XE.loose xe_int)))) xa_nil)))))) (fun _ => blkOk_by (N := ["table", "ball", "minute", "size", "place", "step"]) (sc := defScope s_place_at) (by decide +kernel))))) xal_nil))))))
theorem sc_heading_at : FnScope ["table", "ball", "minute", "size", "place", "step"] ["table", "ball", "minute"] (defScope s_heading_at) := ⟨rfl, rfl, rfl, by decide +kernel, rfl, by decide +kernel, by decide +kernel⟩
theorem ok_heading_at (T : Txt E mg) (hF : ∃ fd, FunD E.K "heading_at" "heading_at" (defArgs s_heading_at) (defBody s_heading_at) (defScope s_heading_at) [] [] (E.cl "heading_at") fd) (h_check_ball : FnX P w E mg base 3 (E.cl "check_ball") ["table", "ball"] f_check_ball) (h_parts_of : FnX P w E mg base 1 (E.cl "parts_of") ["table", "ball"] f_parts_of) (h_step_at : FnX P w E mg base 2 (E.cl "step_at") ["size", "place", "step", "passed"] f_step_at) : FnX P w E mg base 4 (E.cl "heading_at") ["table", "ball", "minute"] f_heading_at := by
  obtain ⟨fd_check_ball, G_check_ball, B_check_ball, K_check_ball⟩ := h_check_ball.ex
  obtain ⟨fd_parts_of, G_parts_of, B_parts_of, K_parts_of⟩ := h_parts_of.ex
  obtain ⟨fd_step_at, G_step_at, B_step_at, K_step_at⟩ := h_step_at.ex
  obtain ⟨fd, F⟩ := hF
  have hB : Binds E.K fd ["table", "ball", "minute"] [] := F.bindsN (fun _ _ _ _ _ _ us hl => match us, hl with | [_, _, _], _ => rfl)
  refine fnX_mk (m := 6) (k := 3) (p := p_heading_at) F sc_heading_at rfl rfl hB (fun cdv A outer s H Ex hr => ?_)
  have c := bd_ctx (P := P) (w := w) (E := E) (mg := mg) (base := base) (N := ["table", "ball", "minute", "size", "place", "step"]) (Ex := Ex) (H := H) (outer := outer) hr
  have nd : (["table", "ball", "minute", "size", "place", "step"] : List Str).Nodup := sc_heading_at.nd
  exact (xss_cons (xs_expr (xe_call c (fun _ => G_check_ball) (by decide) (fun _ => rfl) (fun _ => T.g_check_ball) K_check_ball B_check_ball .nil (fun _ => rfl) (xa_cons (xe_var fun _ => pv 0) (xa_cons (xe_var fun _ => pv 1) xa_nil))))
    (xss_cons (xs_if (zt_cmp (cmp_lt c) (XE.loose (xe_var fun _ => pv 2)) (XE.loose (xe_ix c (XE.loose (xe_var fun _ => pv 1)) (XE.loose xe_int))) (nomark _))
    (xss_one (xs_ret xe_non))
    xss_nil)
    (xss_one (xs_ret (ye_tuple c T.n_tuple (fun _ => rfl) (fun _ => rfl) (xal_cons (XE.loose (XN.xe (xn_lc c (fun _ => nd) (xlc (own := ([("size", 3), ("place", 4), ("step", 5)] : List (Str × Nat))) c (xi_seq c (xe_call c (fun _ => G_parts_of) (by decide) (fun _ => rfl) (fun _ => T.g_parts_of) K_parts_of B_parts_of .nil (fun _ => rfl) (xa_cons (xe_var fun _ => pv 0) (xa_cons (xe_var fun _ => pv 1) xa_nil)))) (xg_tup (Ctx.blk c _) (xgs_cons (xg_name fun _ => pg_name (i := 3) nd rfl (by first | exact Or.inl rfl | exact Or.inr rfl)) (xgs_cons (xg_name fun _ => pg_name (i := 4) nd rfl (by first | exact Or.inl rfl | exact Or.inr rfl)) (xgs_cons (xg_name fun _ => pg_name (i := 5) nd rfl (by first | exact Or.inl rfl | exact Or.inr rfl)) xgs_nil))) (gs_lenS (gs_lenS (gs_lenS gs_len0)))) (by decide) xts_nil (xe_call (Ctx.blk c _) (fun _ => G_step_at) (by decide) (fun _ => rfl) (fun _ => T.g_step_at) K_step_at B_step_at .nil (fun _ => rfl) (xa_cons (xe_var fun _ => pv 3) (xa_cons (xe_var fun _ => pv 4) (xa_cons (xe_var fun _ => pv 5) (xa_cons (xe_sub (Ctx.blk c _) (XE.loose (xe_var fun _ => pv 2)) (XE.loose (xe_ix (Ctx.blk c _) (XE.loose (xe_var fun _ => pv 1)) (XE.loose xe_int)))) xa_nil)))))) (fun _ => blkOk_by (N := ["table", "ball", "minute", "size", "place", "step"]) (sc := defScope s_heading_at) (by decide +kernel))))) xal_nil))))))
theorem sc_law_row : FnScope ["_law_cell", "_law_many", "_law_row_here", "_law_rest", "_law_mixed", "_law_k"] ["_law_cell", "_law_many"] (defScope s_law_row) := ⟨rfl, rfl, rfl, by decide +kernel, rfl, by decide +kernel, by decide +kernel⟩
theorem ok_law_row (T : Txt E mg) (hF : ∃ fd, FunD E.K "_law_row" "_law_row" (defArgs s_law_row) (defBody s_law_row) (defScope s_law_row) [] [] (E.cl "_law_row") fd) : FnX P w E mg base 1 (E.cl "_law_row") ["_law_cell", "_law_many"] f_law_row := by
  obtain ⟨fd, F⟩ := hF
  have hB : Binds E.K fd ["_law_cell", "_law_many"] [] := F.bindsN (fun _ _ _ _ _ _ us hl => match us, hl with | [_, _], _ => rfl)
  refine fnX_mk (m := 6) (k := 0) (p := p_law_row) F sc_law_row rfl rfl hB (fun cdv A outer s H Ex hr => ?_)
  have c := bd_ctx (P := P) (w := w) (E := E) (mg := mg) (base := base) (N := ["_law_cell", "_law_many", "_law_row_here", "_law_rest", "_law_mixed", "_law_k"]) (Ex := Ex) (H := H) (outer := outer) hr
  have nd : (["_law_cell", "_law_many", "_law_row_here", "_law_rest", "_law_mixed", "_law_k"] : List Str).Nodup := sc_law_row.nd
  exact (xss_cons (xs_setO ⟨fun _ => nd, fun _ => rfl, fun _ => (by first | exact Or.inl rfl | exact Or.inr rfl), fun _ => Or.inl rfl⟩ (xn_lst xa_nil))
    (xss_cons (xs_set ⟨fun _ => nd, fun _ => rfl, fun _ => (by first | exact Or.inl rfl | exact Or.inr rfl), fun _ => Or.inl rfl⟩ (ye_abs c T.n_abs (fun _ => rfl) (fun _ => rfl) (xal_cons (XE.loose (xe_var fun _ => pv 0)) xal_nil)))
    (xss_cons (xs_set ⟨fun _ => nd, fun _ => rfl, fun _ => (by first | exact Or.inl rfl | exact Or.inr rfl), fun _ => Or.inl rfl⟩ (xe_mod c (XE.loose (ye_int c T.n_int (fun _ => rfl) (fun _ => rfl) (xal_cons (XE.loose (xe_add c (XE.loose (xe_mul c (XE.loose (xe_var fun _ => pv 3)) (XE.loose xe_int))) (XE.loose xe_int))) xal_nil))) (XE.loose xe_int)))
    (xss_cons (xs_for c (xi_range1 (fun _ => rfl) (fun _ => T.n_range) (xal_cons (XE.loose (xe_var fun _ => pv 1)) xal_nil)) (xg_name fun _ => pg_name (i := 5) nd rfl (by first | exact Or.inl rfl | exact Or.inr rfl))
    (xss_cons (xs_set ⟨fun _ => nd, fun _ => rfl, fun _ => (by first | exact Or.inl rfl | exact Or.inr rfl), fun _ => Or.inl rfl⟩ (xe_mod c (XE.loose (ye_int c T.n_int (fun _ => rfl) (fun _ => rfl) (xal_cons (XE.loose (xe_add c (XE.loose (xe_mul c (XE.loose (xe_var fun _ => pv 4)) (XE.loose xe_int))) (XE.loose (xe_mul c (XE.loose xe_int) (XE.loose (xe_add c (XE.loose (xe_var fun _ => pv 5)) (XE.loose xe_int))))))) xal_nil))) (XE.loose xe_int)))
    (xss_one (xs_if (zt_cmp (cmp_ge c) (XE.loose (ye_abs c T.n_abs (fun _ => rfl) (fun _ => rfl) (xal_cons (XE.loose (xe_var fun _ => pv 0)) xal_nil))) (XE.loose (xe_pow c (XE.loose xe_int) (XE.loose xe_int))) (nomark _))
    (xss_cons (xs_app c (fun _ => pv 2) (xe_mod c (XE.loose (ye_int c T.n_int (fun _ => rfl) (fun _ => rfl) (xal_cons (XE.loose (xe_var fun _ => pv 3)) xal_nil))) (XE.loose xe_int)))
    (xss_one (xs_set ⟨fun _ => nd, fun _ => rfl, fun _ => (by first | exact Or.inl rfl | exact Or.inr rfl), fun _ => Or.inl rfl⟩ (xe_div c (XE.loose (xe_var fun _ => pv 3)) (XE.loose xe_int)))))
    (xss_one (xs_app c (fun _ => pv 2) (xe_mod c (XE.loose (ye_int c T.n_int (fun _ => rfl) (fun _ => rfl) (xal_cons (XE.loose (xe_div c (XE.loose (xe_var fun _ => pv 4)) (XE.loose xe_int))) xal_nil))) (XE.loose xe_int))))))))
    (zss_frz 2 (xss_one (xs_ret (xe_var fun _ => pv 2))))))))
theorem sc_law_numbers : FnScope ["_law_script", "_law_many", "_law_cells", "_law_each", "_law_numbers_here", "_law_cell", "_law_number"] ["_law_script", "_law_many"] (defScope s_law_numbers) := ⟨rfl, rfl, rfl, by decide +kernel, rfl, by decide +kernel, by decide +kernel⟩
theorem ok_law_numbers (T : Txt E mg) (hF : ∃ fd, FunD E.K "_law_numbers" "_law_numbers" (defArgs s_law_numbers) (defBody s_law_numbers) (defScope s_law_numbers) [] [] (E.cl "_law_numbers") fd) (h_law_row : FnX P w E mg base 1 (E.cl "_law_row") ["_law_cell", "_law_many"] f_law_row) : FnX P w E mg base 2 (E.cl "_law_numbers") ["_law_script", "_law_many"] f_law_numbers := by
  obtain ⟨fd_law_row, G_law_row, B_law_row, K_law_row⟩ := h_law_row.ex
  obtain ⟨fd, F⟩ := hF
  have hB : Binds E.K fd ["_law_script", "_law_many"] [] := F.bindsN (fun _ _ _ _ _ _ us hl => match us, hl with | [_, _], _ => rfl)
  refine fnX_mk (m := 7) (k := 1) (p := p_law_numbers) F sc_law_numbers rfl rfl hB (fun cdv A outer s H Ex hr => ?_)
  have c := bd_ctx (P := P) (w := w) (E := E) (mg := mg) (base := base) (N := ["_law_script", "_law_many", "_law_cells", "_law_each", "_law_numbers_here", "_law_cell", "_law_number"]) (Ex := Ex) (H := H) (outer := outer) hr
  have nd : (["_law_script", "_law_many", "_law_cells", "_law_each", "_law_numbers_here", "_law_cell", "_law_number"] : List Str).Nodup := sc_law_numbers.nd
  exact (xss_cons (xs_set ⟨fun _ => nd, fun _ => rfl, fun _ => (by first | exact Or.inl rfl | exact Or.inr rfl), fun _ => Or.inl rfl⟩ (xe_slice c (XE.loose (xe_var fun _ => pv 0)) xo_none (xo_some (XE.loose xe_int))))
    (xss_cons (xs_set ⟨fun _ => nd, fun _ => rfl, fun _ => (by first | exact Or.inl rfl | exact Or.inr rfl), fun _ => Or.inl rfl⟩ (xe_add c (XE.loose xe_int) (XE.loose (xe_div c (XE.loose (xe_var fun _ => pv 1)) (XE.loose (ye_max2 c T.n_max (fun _ => rfl) (fun _ => rfl) (xal_cons (XE.loose xe_int) (xal_cons (XE.loose (ye_len c T.n_len (fun _ => rfl) (fun _ => rfl) (xal_cons (XE.loose (xe_var fun _ => pv 2)) xal_nil))) xal_nil))))))))
    (xss_cons (xs_setO ⟨fun _ => nd, fun _ => rfl, fun _ => (by first | exact Or.inl rfl | exact Or.inr rfl), fun _ => Or.inl rfl⟩ (xn_lst xa_nil))
    (xss_cons (xs_for c (xi_seq c (xe_var fun _ => pv 2)) (xg_name fun _ => pg_name (i := 5) nd rfl (by first | exact Or.inl rfl | exact Or.inr rfl))
    (xss_one (xs_for c (xi_seq c (xe_call c (fun _ => G_law_row) (by decide) (fun _ => rfl) (fun _ => T.g_law_row) K_law_row B_law_row .nil (fun _ => rfl) (xa_cons (xe_var fun _ => pv 5) (xa_cons (xe_var fun _ => pv 3) xa_nil)))) (xg_name fun _ => pg_name (i := 6) nd rfl (by first | exact Or.inl rfl | exact Or.inr rfl))
    (xss_one (xs_app c (fun _ => pv 4) (xe_var fun _ => pv 6))))))
    (xss_cons (xs_while (fun ρ => fuelI 1 ρ) c (zt_cmp (cmp_lt c) (XE.loose (ye_len c T.n_len (fun _ => rfl) (fun _ => rfl) (xal_cons (xl_var fun _ => pv 4) xal_nil))) (XE.loose (xe_var fun _ => pv 1)) (nomark _))
    (xss_one (xs_app c (fun _ => pv 4) xe_int)))
    (zss_frz 4 (xss_one (xs_ret (xe_slice c (XE.loose (xe_var fun _ => pv 4)) xo_none (xo_some (XE.loose (xe_var fun _ => pv 1))))))))))))
theorem sc_law_is_integer : FnScope ["_law_actual"] ["_law_actual"] (defScope s_law_is_integer) := ⟨rfl, rfl, rfl, by decide +kernel, rfl, by decide +kernel, by decide +kernel⟩
theorem ok_law_is_integer (T : Txt E mg) (hF : ∃ fd, FunD E.K "_law_is_integer" "_law_is_integer" (defArgs s_law_is_integer) (defBody s_law_is_integer) (defScope s_law_is_integer) [] [] (E.cl "_law_is_integer") fd) : FnX P w E mg base 1 (E.cl "_law_is_integer") ["_law_actual"] f_law_is_integer := by
  obtain ⟨fd, F⟩ := hF
  have hB : Binds E.K fd ["_law_actual"] [] := F.bindsN (fun _ _ _ _ _ _ us hl => match us, hl with | [_], _ => rfl)
  refine fnX_mk (m := 1) (k := 0) (p := p_law_is_integer) F sc_law_is_integer rfl rfl hB (fun cdv A outer s H Ex hr => ?_)
  have c := bd_ctx (P := P) (w := w) (E := E) (mg := mg) (base := base) (N := ["_law_actual"]) (Ex := Ex) (H := H) (outer := outer) hr
  have nd : (["_law_actual"] : List Str).Nodup := sc_law_is_integer.nd
  exact (xss_one (xs_ret (xe_and (xe_isi c (fun _ => rfl) (fun _ => T.n_isinstance) (XE.loose (xe_var fun _ => pv 0)) (fun _ => pe_ty rfl T.n_int (by decide +kernel))) (xe_one (xe_not (xe_isi c (fun _ => rfl) (fun _ => T.n_isinstance) (XE.loose (xe_var fun _ => pv 0)) (fun _ => pe_ty rfl T.n_bool (by decide +kernel))))))))
theorem sc_law_size : FnScope ["_law_number"] ["_law_number"] (defScope s_law_size) := ⟨rfl, rfl, rfl, by decide +kernel, rfl, by decide +kernel, by decide +kernel⟩
theorem ok_law_size (T : Txt E mg) (hF : ∃ fd, FunD E.K "_law_size" "_law_size" (defArgs s_law_size) (defBody s_law_size) (defScope s_law_size) [] [] (E.cl "_law_size") fd) : FnX P w E mg base 1 (E.cl "_law_size") ["_law_number"] f_law_size := by
  obtain ⟨fd, F⟩ := hF
  have hB : Binds E.K fd ["_law_number"] [] := F.bindsN (fun _ _ _ _ _ _ us hl => match us, hl with | [_], _ => rfl)
  refine fnX_mk (m := 1) (k := 0) (p := p_law_size) F sc_law_size rfl rfl hB (fun cdv A outer s H Ex hr => ?_)
  have c := bd_ctx (P := P) (w := w) (E := E) (mg := mg) (base := base) (N := ["_law_number"]) (Ex := Ex) (H := H) (outer := outer) hr
  have nd : (["_law_number"] : List Str).Nodup := sc_law_size.nd
  exact (xss_one (xs_ret (xe_ix c (XE.loose (XN.xe (xn_lst (xa_cons (xe_add c (XE.loose xe_int) (XE.loose (xe_mod c (XE.loose (ye_int c T.n_int (fun _ => rfl) (fun _ => rfl) (xal_cons (XE.loose (xe_var fun _ => pv 0)) xal_nil))) (XE.loose xe_int)))) (xa_cons (xe_add c (XE.loose xe_int) (XE.loose (xe_mod c (XE.loose (ye_int c T.n_int (fun _ => rfl) (fun _ => rfl) (xal_cons (XE.loose (xe_var fun _ => pv 0)) xal_nil))) (XE.loose xe_int)))) (xa_cons xe_int (xa_cons xe_int (xa_cons (xe_add c (XE.loose xe_int) (XE.loose (xe_mod c (XE.loose (ye_int c T.n_int (fun _ => rfl) (fun _ => rfl) (xal_cons (XE.loose (xe_var fun _ => pv 0)) xal_nil))) (XE.loose xe_int)))) (xa_cons xe_int (xa_cons xe_int (xa_cons xe_int xa_nil))))))))))) (XE.loose (xe_mod c (XE.loose (ye_int c T.n_int (fun _ => rfl) (fun _ => rfl) (xal_cons (XE.loose (xe_div c (XE.loose (xe_var fun _ => pv 0)) (XE.loose xe_int))) xal_nil))) (XE.loose xe_int))))))
theorem sc_law_ball : FnScope ["_law_numbers_here", "_law_at", "_law_width", "_law_height", "_law_name", "_law_dx", "_law_dy", "_law_x", "_law_y"] ["_law_numbers_here", "_law_at", "_law_width", "_law_height", "_law_name"] (defScope s_law_ball) := ⟨rfl, rfl, rfl, by decide +kernel, rfl, by decide +kernel, by decide +kernel⟩
theorem ok_law_ball (T : Txt E mg) (hF : ∃ fd, FunD E.K "_law_ball" "_law_ball" (defArgs s_law_ball) (defBody s_law_ball) (defScope s_law_ball) [] [] (E.cl "_law_ball") fd) : FnX P w E mg base 1 (E.cl "_law_ball") ["_law_numbers_here", "_law_at", "_law_width", "_law_height", "_law_name"] f_law_ball := by
  obtain ⟨fd, F⟩ := hF
  have hB : Binds E.K fd ["_law_numbers_here", "_law_at", "_law_width", "_law_height", "_law_name"] [] := F.bindsN (fun _ _ _ _ _ _ us hl => match us, hl with | [_, _, _, _, _], _ => rfl)
  refine fnX_mk (m := 9) (k := 0) (p := p_law_ball) F sc_law_ball rfl rfl hB (fun cdv A outer s H Ex hr => ?_)
  have c := bd_ctx (P := P) (w := w) (E := E) (mg := mg) (base := base) (N := ["_law_numbers_here", "_law_at", "_law_width", "_law_height", "_law_name", "_law_dx", "_law_dy", "_law_x", "_law_y"]) (Ex := Ex) (H := H) (outer := outer) hr
  have nd : (["_law_numbers_here", "_law_at", "_law_width", "_law_height", "_law_name", "_law_dx", "_law_dy", "_law_x", "_law_y"] : List Str).Nodup := sc_law_ball.nd
  exact (xss_cons (xs_asg (xe_ix c (XE.loose (XN.xe (xn_lst (xa_cons (xe_tup (xa_cons xe_int (xa_cons xe_int xa_nil))) (xa_cons (xe_tup (xa_cons xe_int (xa_cons (xe_neg (XE.loose xe_int)) xa_nil))) (xa_cons (xe_tup (xa_cons (xe_neg (XE.loose xe_int)) (xa_cons xe_int xa_nil))) (xa_cons (xe_tup (xa_cons (xe_neg (XE.loose xe_int)) (xa_cons (xe_neg (XE.loose xe_int)) xa_nil))) (xa_cons (xe_tup (xa_cons xe_int (xa_cons xe_int xa_nil))) (xa_cons (xe_tup (xa_cons xe_int (xa_cons (xe_neg (XE.loose xe_int)) xa_nil))) (xa_cons (xe_tup (xa_cons (xe_neg (XE.loose xe_int)) (xa_cons xe_int xa_nil))) (xa_cons (xe_tup (xa_cons xe_int (xa_cons xe_int xa_nil))) xa_nil))))))))))) (XE.loose (xe_mod c (XE.loose (ye_int c T.n_int (fun _ => rfl) (fun _ => rfl) (xal_cons (XE.loose (xe_ix c (XE.loose (xe_var fun _ => pv 0)) (XE.loose (xe_var fun _ => pv 1)))) xal_nil))) (XE.loose xe_int)))) (xg_tup c (xgs_cons (xg_name fun _ => pg_name (i := 5) nd rfl (by first | exact Or.inl rfl | exact Or.inr rfl)) (xgs_cons (xg_name fun _ => pg_name (i := 6) nd rfl (by first | exact Or.inl rfl | exact Or.inr rfl)) xgs_nil)) (gs_lenS (gs_lenS gs_len0))))
    (xss_cons (xs_set ⟨fun _ => nd, fun _ => rfl, fun _ => (by first | exact Or.inl rfl | exact Or.inr rfl), fun _ => Or.inl rfl⟩ (xe_mod c (XE.loose (ye_int c T.n_int (fun _ => rfl) (fun _ => rfl) (xal_cons (XE.loose (xe_ix c (XE.loose (xe_var fun _ => pv 0)) (XE.loose (xe_add c (XE.loose (xe_var fun _ => pv 1)) (XE.loose xe_int))))) xal_nil))) (XE.loose (xe_add c (XE.loose (xe_var fun _ => pv 2)) (XE.loose xe_int)))))
    (xss_cons (xs_set ⟨fun _ => nd, fun _ => rfl, fun _ => (by first | exact Or.inl rfl | exact Or.inr rfl), fun _ => Or.inl rfl⟩ (xe_mod c (XE.loose (ye_int c T.n_int (fun _ => rfl) (fun _ => rfl) (xal_cons (XE.loose (xe_ix c (XE.loose (xe_var fun _ => pv 0)) (XE.loose (xe_add c (XE.loose (xe_var fun _ => pv 1)) (XE.loose xe_int))))) xal_nil))) (XE.loose (xe_add c (XE.loose (xe_var fun _ => pv 3)) (XE.loose xe_int)))))
    (xss_cons (xs_if (zt_cmp (cmp_eq c) (XE.loose (xe_mod c (XE.loose (ye_int c T.n_int (fun _ => rfl) (fun _ => rfl) (xal_cons (XE.loose (xe_ix c (XE.loose (xe_var fun _ => pv 0)) (XE.loose (xe_add c (XE.loose (xe_var fun _ => pv 1)) (XE.loose xe_int))))) xal_nil))) (XE.loose xe_int))) (XE.loose xe_int) (nomark _))
    (xss_one (xs_set ⟨fun _ => nd, fun _ => rfl, fun _ => (by first | exact Or.inl rfl | exact Or.inr rfl), fun _ => Or.inl rfl⟩ (xe_ix c (XE.loose (XN.xe (xn_lst (xa_cons xe_int (xa_cons (xe_var fun _ => pv 2) xa_nil))))) (XE.loose (xe_mod c (XE.loose (ye_int c T.n_int (fun _ => rfl) (fun _ => rfl) (xal_cons (XE.loose (xe_ix c (XE.loose (xe_var fun _ => pv 0)) (XE.loose (xe_add c (XE.loose (xe_var fun _ => pv 1)) (XE.loose xe_int))))) xal_nil))) (XE.loose xe_int))))))
    xss_nil)
    (xss_cons (xs_if (zt_cmp (cmp_eq c) (XE.loose (xe_mod c (XE.loose (ye_int c T.n_int (fun _ => rfl) (fun _ => rfl) (xal_cons (XE.loose (xe_ix c (XE.loose (xe_var fun _ => pv 0)) (XE.loose (xe_add c (XE.loose (xe_var fun _ => pv 1)) (XE.loose xe_int))))) xal_nil))) (XE.loose xe_int))) (XE.loose xe_int) (nomark _))
    (xss_one (xs_set ⟨fun _ => nd, fun _ => rfl, fun _ => (by first | exact Or.inl rfl | exact Or.inr rfl), fun _ => Or.inl rfl⟩ (xe_ix c (XE.loose (XN.xe (xn_lst (xa_cons xe_int (xa_cons (xe_var fun _ => pv 3) xa_nil))))) (XE.loose (xe_mod c (XE.loose (ye_int c T.n_int (fun _ => rfl) (fun _ => rfl) (xal_cons (XE.loose (xe_ix c (XE.loose (xe_var fun _ => pv 0)) (XE.loose (xe_add c (XE.loose (xe_var fun _ => pv 1)) (XE.loose xe_int))))) xal_nil))) (XE.loose xe_int))))))
    xss_nil)
    (xss_one (xs_ret (xe_tup (xa_cons (xe_var fun _ => pv 4) (xa_cons (xe_var fun _ => pv 7) (xa_cons (xe_var fun _ => pv 8) (xa_cons (xe_var fun _ => pv 5) (xa_cons (xe_var fun _ => pv 6) (xa_cons (xe_mod c (XE.loose (ye_int c T.n_int (fun _ => rfl) (fun _ => rfl) (xal_cons (XE.loose (xe_div c (XE.loose (xe_ix c (XE.loose (xe_var fun _ => pv 0)) (XE.loose (xe_add c (XE.loose (xe_var fun _ => pv 1)) (XE.loose xe_int))))) (XE.loose xe_int))) xal_nil))) (XE.loose xe_int)) xa_nil))))))))))))))
theorem sc_law_turned : FnScope ["_law_size_here", "_law_place", "_law_step"] ["_law_size_here", "_law_place", "_law_step"] (defScope s_law_turned) := ⟨rfl, rfl, rfl, by decide +kernel, rfl, by decide +kernel, by decide +kernel⟩
theorem ok_law_turned (T : Txt E mg) (hF : ∃ fd, FunD E.K "_law_turned" "_law_turned" (defArgs s_law_turned) (defBody s_law_turned) (defScope s_law_turned) [] [] (E.cl "_law_turned") fd) : FnX P w E mg base 1 (E.cl "_law_turned") ["_law_size_here", "_law_place", "_law_step"] f_law_turned := by
  obtain ⟨fd, F⟩ := hF
  have hB : Binds E.K fd ["_law_size_here", "_law_place", "_law_step"] [] := F.bindsN (fun _ _ _ _ _ _ us hl => match us, hl with | [_, _, _], _ => rfl)
  refine fnX_mk (m := 3) (k := 0) (p := p_law_turned) F sc_law_turned rfl rfl hB (fun cdv A outer s H Ex hr => ?_)
  have c := bd_ctx (P := P) (w := w) (E := E) (mg := mg) (base := base) (N := ["_law_size_here", "_law_place", "_law_step"]) (Ex := Ex) (H := H) (outer := outer) hr
  have nd : (["_law_size_here", "_law_place", "_law_step"] : List Str).Nodup := sc_law_turned.nd
  exact (xss_cons (xs_if (xw_pt (xw_or (zt_cmp (cmp_lt c) (XE.loose (xe_add c (XE.loose (xe_var fun _ => pv 1)) (XE.loose (xe_var fun _ => pv 2)))) (XE.loose xe_int) (nomark _)) (xw_or1 (zt_cmp (cmp_gt c) (XE.loose (xe_add c (XE.loose (xe_var fun _ => pv 1)) (XE.loose (xe_var fun _ => pv 2)))) (XE.loose (xe_var fun _ => pv 0)) (nomark _)))))
    (xss_one (xs_ret (xe_neg (XE.loose (xe_var fun _ => pv 2)))))
    xss_nil)
    (xss_one (xs_ret (xe_var fun _ => pv 2))))
theorem sc_law_walk : FnScope ["_law_width", "_law_height", "_law_ball_here", "_law_many", "_law_name", "_law_x", "_law_y", "_law_dx", "_law_dy", "_law_minute", "_law_rows", "_law_k"] ["_law_width", "_law_height", "_law_ball_here", "_law_many"] (defScope s_law_walk) := ⟨rfl, rfl, rfl, by decide +kernel, rfl, by decide +kernel, by decide +kernel⟩
theorem ok_law_walk (T : Txt E mg) (hF : ∃ fd, FunD E.K "_law_walk" "_law_walk" (defArgs s_law_walk) (defBody s_law_walk) (defScope s_law_walk) [] [] (E.cl "_law_walk") fd) (h_law_turned : FnX P w E mg base 1 (E.cl "_law_turned") ["_law_size_here", "_law_place", "_law_step"] f_law_turned) : FnX P w E mg base 2 (E.cl "_law_walk") ["_law_width", "_law_height", "_law_ball_here", "_law_many"] f_law_walk := by
  obtain ⟨fd_law_turned, G_law_turned, B_law_turned, K_law_turned⟩ := h_law_turned.ex
  obtain ⟨fd, F⟩ := hF
  have hB : Binds E.K fd ["_law_width", "_law_height", "_law_ball_here", "_law_many"] [] := F.bindsN (fun _ _ _ _ _ _ us hl => match us, hl with | [_, _, _, _], _ => rfl)
  refine fnX_mk (m := 12) (k := 1) (p := p_law_walk) F sc_law_walk rfl rfl hB (fun cdv A outer s H Ex hr => ?_)
  have c := bd_ctx (P := P) (w := w) (E := E) (mg := mg) (base := base) (N := ["_law_width", "_law_height", "_law_ball_here", "_law_many", "_law_name", "_law_x", "_law_y", "_law_dx", "_law_dy", "_law_minute", "_law_rows", "_law_k"]) (Ex := Ex) (H := H) (outer := outer) hr
  have nd : (["_law_width", "_law_height", "_law_ball_here", "_law_many", "_law_name", "_law_x", "_law_y", "_law_dx", "_law_dy", "_law_minute", "_law_rows", "_law_k"] : List Str).Nodup := sc_law_walk.nd
  exact (xss_cons (xs_asg (xe_var fun _ => pv 2) (xg_tup c (xgs_cons (xg_name fun _ => pg_name (i := 4) nd rfl (by first | exact Or.inl rfl | exact Or.inr rfl)) (xgs_cons (xg_name fun _ => pg_name (i := 5) nd rfl (by first | exact Or.inl rfl | exact Or.inr rfl)) (xgs_cons (xg_name fun _ => pg_name (i := 6) nd rfl (by first | exact Or.inl rfl | exact Or.inr rfl)) (xgs_cons (xg_name fun _ => pg_name (i := 7) nd rfl (by first | exact Or.inl rfl | exact Or.inr rfl)) (xgs_cons (xg_name fun _ => pg_name (i := 8) nd rfl (by first | exact Or.inl rfl | exact Or.inr rfl)) (xgs_cons (xg_name fun _ => pg_name (i := 9) nd rfl (by first | exact Or.inl rfl | exact Or.inr rfl)) xgs_nil)))))) (gs_lenS (gs_lenS (gs_lenS (gs_lenS (gs_lenS (gs_lenS gs_len0))))))))
    (xss_cons (xs_setO ⟨fun _ => nd, fun _ => rfl, fun _ => (by first | exact Or.inl rfl | exact Or.inr rfl), fun _ => Or.inl rfl⟩ (xn_lst xa_nil))
    (xss_cons (xs_for c (xi_range1 (fun _ => rfl) (fun _ => T.n_range) (xal_cons (XE.loose (xe_var fun _ => pv 3)) xal_nil)) (xg_name fun _ => pg_name (i := 11) nd rfl (by first | exact Or.inl rfl | exact Or.inr rfl))
    (xss_cons (xs_set ⟨fun _ => nd, fun _ => rfl, fun _ => (by first | exact Or.inl rfl | exact Or.inr rfl), fun _ => Or.inl rfl⟩ (xe_call c (fun _ => G_law_turned) (by decide) (fun _ => rfl) (fun _ => T.g_law_turned) K_law_turned B_law_turned .nil (fun _ => rfl) (xa_cons (xe_var fun _ => pv 0) (xa_cons (xe_var fun _ => pv 5) (xa_cons (xe_var fun _ => pv 7) xa_nil)))))
    (xss_cons (xs_set ⟨fun _ => nd, fun _ => rfl, fun _ => (by first | exact Or.inl rfl | exact Or.inr rfl), fun _ => Or.inl rfl⟩ (xe_call c (fun _ => G_law_turned) (by decide) (fun _ => rfl) (fun _ => T.g_law_turned) K_law_turned B_law_turned .nil (fun _ => rfl) (xa_cons (xe_var fun _ => pv 1) (xa_cons (xe_var fun _ => pv 6) (xa_cons (xe_var fun _ => pv 8) xa_nil)))))
    (xss_cons (xs_app c (fun _ => pv 10) (xe_tup (xa_cons (xe_var fun _ => pv 5) (xa_cons (xe_var fun _ => pv 6) (xa_cons (xe_var fun _ => pv 7) (xa_cons (xe_var fun _ => pv 8) xa_nil))))))
    (xss_cons (xs_set ⟨fun _ => nd, fun _ => rfl, fun _ => (by first | exact Or.inl rfl | exact Or.inr rfl), fun _ => Or.inl rfl⟩ (xe_add c (XE.loose (xe_var fun _ => pv 5)) (XE.loose (xe_var fun _ => pv 7))))
    (xss_one (xs_set ⟨fun _ => nd, fun _ => rfl, fun _ => (by first | exact Or.inl rfl | exact Or.inr rfl), fun _ => Or.inl rfl⟩ (xe_add c (XE.loose (xe_var fun _ => pv 6)) (XE.loose (xe_var fun _ => pv 8))))))))))
    (zss_frz 10 (xss_one (xs_ret (xe_var fun _ => pv 10)))))))
theorem sc_law_great : FnScope ["_law_numbers_here", "_law_at", "_law_total", "_law_k"] ["_law_numbers_here", "_law_at"] (defScope s_law_great) := ⟨rfl, rfl, rfl, by decide +kernel, rfl, by decide +kernel, by decide +kernel⟩
theorem ok_law_great (T : Txt E mg) (hF : ∃ fd, FunD E.K "_law_great" "_law_great" (defArgs s_law_great) (defBody s_law_great) (defScope s_law_great) [] [] (E.cl "_law_great") fd) : FnX P w E mg base 1 (E.cl "_law_great") ["_law_numbers_here", "_law_at"] f_law_great := by
  obtain ⟨fd, F⟩ := hF
  have hB : Binds E.K fd ["_law_numbers_here", "_law_at"] [] := F.bindsN (fun _ _ _ _ _ _ us hl => match us, hl with | [_, _], _ => rfl)
  refine fnX_mk (m := 4) (k := 0) (p := p_law_great) F sc_law_great rfl rfl hB (fun cdv A outer s H Ex hr => ?_)
  have c := bd_ctx (P := P) (w := w) (E := E) (mg := mg) (base := base) (N := ["_law_numbers_here", "_law_at", "_law_total", "_law_k"]) (Ex := Ex) (H := H) (outer := outer) hr
  have nd : (["_law_numbers_here", "_law_at", "_law_total", "_law_k"] : List Str).Nodup := sc_law_great.nd
  exact (xss_cons (xs_set ⟨fun _ => nd, fun _ => rfl, fun _ => (by first | exact Or.inl rfl | exact Or.inr rfl), fun _ => Or.inl rfl⟩ xe_int)
    (xss_cons (xs_for c (xi_range1 (fun _ => rfl) (fun _ => T.n_range) (xal_cons (XE.loose (xe_add c (XE.loose xe_int) (XE.loose (xe_mod c (XE.loose (ye_int c T.n_int (fun _ => rfl) (fun _ => rfl) (xal_cons (XE.loose (xe_ix c (XE.loose (xe_var fun _ => pv 0)) (XE.loose (xe_var fun _ => pv 1)))) xal_nil))) (XE.loose xe_int))))) xal_nil)) (xg_name fun _ => pg_name (i := 3) nd rfl (by first | exact Or.inl rfl | exact Or.inr rfl))
    (xss_one (xs_set ⟨fun _ => nd, fun _ => rfl, fun _ => (by first | exact Or.inl rfl | exact Or.inr rfl), fun _ => Or.inl rfl⟩ (xe_add c (XE.loose (xe_mul c (XE.loose (xe_var fun _ => pv 2)) (XE.loose xe_int))) (XE.loose (xe_ix c (XE.loose (xe_var fun _ => pv 0)) (XE.loose (xe_add c (XE.loose (xe_add c (XE.loose (xe_var fun _ => pv 1)) (XE.loose xe_int))) (XE.loose (xe_var fun _ => pv 3))))))))))
    (xss_one (xs_ret (ye_min2 c T.n_min (fun _ => rfl) (fun _ => rfl) (xal_cons (XE.loose (xe_pow c (XE.loose xe_int) (XE.loose xe_int))) (xal_cons (XE.loose (xe_add c (XE.loose xe_int) (XE.loose (xe_var fun _ => pv 2)))) xal_nil)))))))
theorem sc_law_greater : FnScope ["_law_numbers_here", "_law_at", "_law_width", "_law_height", "_law_name", "_law_dx", "_law_dy", "_law_x", "_law_y", "_law_most", "_law_k"] ["_law_numbers_here", "_law_at", "_law_width", "_law_height", "_law_name"] (defScope s_law_greater) := ⟨rfl, rfl, rfl, by decide +kernel, rfl, by decide +kernel, by decide +kernel⟩
theorem ok_law_greater (T : Txt E mg) (hF : ∃ fd, FunD E.K "_law_greater" "_law_greater" (defArgs s_law_greater) (defBody s_law_greater) (defScope s_law_greater) [] [] (E.cl "_law_greater") fd) (h_law_great : FnX P w E mg base 1 (E.cl "_law_great") ["_law_numbers_here", "_law_at"] f_law_great) : FnX P w E mg base 2 (E.cl "_law_greater") ["_law_numbers_here", "_law_at", "_law_width", "_law_height", "_law_name"] f_law_greater := by
  obtain ⟨fd_law_great, G_law_great, B_law_great, K_law_great⟩ := h_law_great.ex
  obtain ⟨fd, F⟩ := hF
  have hB : Binds E.K fd ["_law_numbers_here", "_law_at", "_law_width", "_law_height", "_law_name"] [] := F.bindsN (fun _ _ _ _ _ _ us hl => match us, hl with | [_, _, _, _, _], _ => rfl)
  refine fnX_mk (m := 11) (k := 1) (p := p_law_greater) F sc_law_greater rfl rfl hB (fun cdv A outer s H Ex hr => ?_)
  have c := bd_ctx (P := P) (w := w) (E := E) (mg := mg) (base := base) (N := ["_law_numbers_here", "_law_at", "_law_width", "_law_height", "_law_name", "_law_dx", "_law_dy", "_law_x", "_law_y", "_law_most", "_law_k"]) (Ex := Ex) (H := H) (outer := outer) hr
  have nd : (["_law_numbers_here", "_law_at", "_law_width", "_law_height", "_law_name", "_law_dx", "_law_dy", "_law_x", "_law_y", "_law_most", "_law_k"] : List Str).Nodup := sc_law_greater.nd
  exact (xss_cons (xs_asg (xe_ix c (XE.loose (XN.xe (xn_lst (xa_cons (xe_tup (xa_cons xe_int (xa_cons xe_int xa_nil))) (xa_cons (xe_tup (xa_cons xe_int (xa_cons (xe_neg (XE.loose xe_int)) xa_nil))) (xa_cons (xe_tup (xa_cons (xe_neg (XE.loose xe_int)) (xa_cons xe_int xa_nil))) (xa_cons (xe_tup (xa_cons (xe_neg (XE.loose xe_int)) (xa_cons (xe_neg (XE.loose xe_int)) xa_nil))) (xa_cons (xe_tup (xa_cons xe_int (xa_cons xe_int xa_nil))) (xa_cons (xe_tup (xa_cons xe_int (xa_cons (xe_neg (XE.loose xe_int)) xa_nil))) (xa_cons (xe_tup (xa_cons (xe_neg (XE.loose xe_int)) (xa_cons xe_int xa_nil))) (xa_cons (xe_tup (xa_cons xe_int (xa_cons xe_int xa_nil))) xa_nil))))))))))) (XE.loose (xe_mod c (XE.loose (ye_int c T.n_int (fun _ => rfl) (fun _ => rfl) (xal_cons (XE.loose (xe_ix c (XE.loose (xe_var fun _ => pv 0)) (XE.loose (xe_var fun _ => pv 1)))) xal_nil))) (XE.loose xe_int)))) (xg_tup c (xgs_cons (xg_name fun _ => pg_name (i := 5) nd rfl (by first | exact Or.inl rfl | exact Or.inr rfl)) (xgs_cons (xg_name fun _ => pg_name (i := 6) nd rfl (by first | exact Or.inl rfl | exact Or.inr rfl)) xgs_nil)) (gs_lenS (gs_lenS gs_len0))))
    (xss_cons (xs_set ⟨fun _ => nd, fun _ => rfl, fun _ => (by first | exact Or.inl rfl | exact Or.inr rfl), fun _ => Or.inl rfl⟩ (xe_mod c (XE.loose (ye_int c T.n_int (fun _ => rfl) (fun _ => rfl) (xal_cons (XE.loose (xe_call c (fun _ => G_law_great) (by decide) (fun _ => rfl) (fun _ => T.g_law_great) K_law_great B_law_great .nil (fun _ => rfl) (xa_cons (xe_var fun _ => pv 0) (xa_cons (xe_add c (XE.loose (xe_var fun _ => pv 1)) (XE.loose xe_int)) xa_nil)))) xal_nil))) (XE.loose (xe_add c (XE.loose (xe_var fun _ => pv 2)) (XE.loose xe_int)))))
    (xss_cons (xs_set ⟨fun _ => nd, fun _ => rfl, fun _ => (by first | exact Or.inl rfl | exact Or.inr rfl), fun _ => Or.inl rfl⟩ (xe_mod c (XE.loose (ye_int c T.n_int (fun _ => rfl) (fun _ => rfl) (xal_cons (XE.loose (xe_call c (fun _ => G_law_great) (by decide) (fun _ => rfl) (fun _ => T.g_law_great) K_law_great B_law_great .nil (fun _ => rfl) (xa_cons (xe_var fun _ => pv 0) (xa_cons (xe_add c (XE.loose (xe_var fun _ => pv 1)) (XE.loose xe_int)) xa_nil)))) xal_nil))) (XE.loose (xe_add c (XE.loose (xe_var fun _ => pv 3)) (XE.loose xe_int)))))
    (xss_cons (xs_set ⟨fun _ => nd, fun _ => rfl, fun _ => (by first | exact Or.inl rfl | exact Or.inr rfl), fun _ => Or.inl rfl⟩ xe_int)
    (xss_cons (xs_for c (xi_range1 (fun _ => rfl) (fun _ => T.n_range) (xal_cons (XE.loose (xe_mod c (XE.loose (ye_int c T.n_int (fun _ => rfl) (fun _ => rfl) (xal_cons (XE.loose (xe_ix c (XE.loose (xe_var fun _ => pv 0)) (XE.loose (xe_add c (XE.loose (xe_var fun _ => pv 1)) (XE.loose xe_int))))) xal_nil))) (XE.loose xe_int))) xal_nil)) (xg_name fun _ => pg_name (i := 10) nd rfl (by first | exact Or.inl rfl | exact Or.inr rfl))
    (xss_one (xs_set ⟨fun _ => nd, fun _ => rfl, fun _ => (by first | exact Or.inl rfl | exact Or.inr rfl), fun _ => Or.inl rfl⟩ (xe_mul c (XE.loose (xe_var fun _ => pv 9)) (XE.loose xe_int)))))
    (xss_one (xs_ret (xe_tup (xa_cons (xe_var fun _ => pv 4) (xa_cons (xe_var fun _ => pv 7) (xa_cons (xe_var fun _ => pv 8) (xa_cons (xe_var fun _ => pv 5) (xa_cons (xe_var fun _ => pv 6) (xa_cons (xe_mod c (XE.loose (ye_int c T.n_int (fun _ => rfl) (fun _ => rfl) (xal_cons (XE.loose (xe_call c (fun _ => G_law_great) (by decide) (fun _ => rfl) (fun _ => T.g_law_great) K_law_great B_law_great .nil (fun _ => rfl) (xa_cons (xe_var fun _ => pv 0) (xa_cons (xe_add c (XE.loose (xe_var fun _ => pv 1)) (XE.loose xe_int)) xa_nil)))) xal_nil))) (XE.loose (xe_var fun _ => pv 9))) xa_nil))))))))))))))
theorem sc_law_part : FnScope ["_law_size_here", "_law_place", "_law_step", "_law_passed", "_law_total", "_law_rounds", "_law_rest"] ["_law_size_here", "_law_place", "_law_step", "_law_passed"] (defScope s_law_part) := ⟨rfl, rfl, rfl, by decide +kernel, rfl, by decide +kernel, by decide +kernel⟩
theorem ok_law_part (T : Txt E mg) (hF : ∃ fd, FunD E.K "_law_part" "_law_part" (defArgs s_law_part) (defBody s_law_part) (defScope s_law_part) [] [] (E.cl "_law_part") fd) : FnX P w E mg base 1 (E.cl "_law_part") ["_law_size_here", "_law_place", "_law_step", "_law_passed"] f_law_part := by
  obtain ⟨fd, F⟩ := hF
  have hB : Binds E.K fd ["_law_size_here", "_law_place", "_law_step", "_law_passed"] [] := F.bindsN (fun _ _ _ _ _ _ us hl => match us, hl with | [_, _, _, _], _ => rfl)
  refine fnX_mk (m := 7) (k := 0) (p := p_law_part) F sc_law_part rfl rfl hB (fun cdv A outer s H Ex hr => ?_)
  have c := bd_ctx (P := P) (w := w) (E := E) (mg := mg) (base := base) (N := ["_law_size_here", "_law_place", "_law_step", "_law_passed", "_law_total", "_law_rounds", "_law_rest"]) (Ex := Ex) (H := H) (outer := outer) hr
  have nd : (["_law_size_here", "_law_place", "_law_step", "_law_passed", "_law_total", "_law_rounds", "_law_rest"] : List Str).Nodup := sc_law_part.nd
  exact (xss_cons (xs_set ⟨fun _ => nd, fun _ => rfl, fun _ => (by first | exact Or.inl rfl | exact Or.inr rfl), fun _ => Or.inl rfl⟩ (xe_add c (XE.loose (xe_var fun _ => pv 1)) (XE.loose (xe_mul c (XE.loose (xe_var fun _ => pv 2)) (XE.loose (xe_var fun _ => pv 3))))))
    (xss_cons (xs_set ⟨fun _ => nd, fun _ => rfl, fun _ => (by first | exact Or.inl rfl | exact Or.inr rfl), fun _ => Or.inl rfl⟩ (xe_div c (XE.loose (xe_var fun _ => pv 4)) (XE.loose (xe_var fun _ => pv 0))))
    (xss_cons (xs_set ⟨fun _ => nd, fun _ => rfl, fun _ => (by first | exact Or.inl rfl | exact Or.inr rfl), fun _ => Or.inl rfl⟩ (xe_sub c (XE.loose (xe_var fun _ => pv 4)) (XE.loose (xe_mul c (XE.loose (xe_var fun _ => pv 5)) (XE.loose (xe_var fun _ => pv 0))))))
    (xss_cons (xs_if (zt_cmp (cmp_eq c) (XE.loose (xe_mod c (XE.loose (ye_int c T.n_int (fun _ => rfl) (fun _ => rfl) (xal_cons (XE.loose (xe_var fun _ => pv 5)) xal_nil))) (XE.loose xe_int))) (XE.loose xe_int) (nomark _))
    (xss_one (xs_set ⟨fun _ => nd, fun _ => rfl, fun _ => (by first | exact Or.inl rfl | exact Or.inr rfl), fun _ => Or.inl rfl⟩ (xe_sub c (XE.loose (xe_var fun _ => pv 0)) (XE.loose (xe_var fun _ => pv 6)))))
    xss_nil)
    (xss_one (xs_ret (xe_var fun _ => pv 6)))))))
theorem sc_law_where : FnScope ["_law_width", "_law_height", "_law_ball_here", "_law_minute", "_law_name", "_law_x", "_law_y", "_law_dx", "_law_dy", "_law_start"] ["_law_width", "_law_height", "_law_ball_here", "_law_minute"] (defScope s_law_where) := ⟨rfl, rfl, rfl, by decide +kernel, rfl, by decide +kernel, by decide +kernel⟩
theorem ok_law_where (T : Txt E mg) (hF : ∃ fd, FunD E.K "_law_where" "_law_where" (defArgs s_law_where) (defBody s_law_where) (defScope s_law_where) [] [] (E.cl "_law_where") fd) (h_law_part : FnX P w E mg base 1 (E.cl "_law_part") ["_law_size_here", "_law_place", "_law_step", "_law_passed"] f_law_part) : FnX P w E mg base 2 (E.cl "_law_where") ["_law_width", "_law_height", "_law_ball_here", "_law_minute"] f_law_where := by
  obtain ⟨fd_law_part, G_law_part, B_law_part, K_law_part⟩ := h_law_part.ex
  obtain ⟨fd, F⟩ := hF
  have hB : Binds E.K fd ["_law_width", "_law_height", "_law_ball_here", "_law_minute"] [] := F.bindsN (fun _ _ _ _ _ _ us hl => match us, hl with | [_, _, _, _], _ => rfl)
  refine fnX_mk (m := 10) (k := 1) (p := p_law_where) F sc_law_where rfl rfl hB (fun cdv A outer s H Ex hr => ?_)
  have c := bd_ctx (P := P) (w := w) (E := E) (mg := mg) (base := base) (N := ["_law_width", "_law_height", "_law_ball_here", "_law_minute", "_law_name", "_law_x", "_law_y", "_law_dx", "_law_dy", "_law_start"]) (Ex := Ex) (H := H) (outer := outer) hr
  have nd : (["_law_width", "_law_height", "_law_ball_here", "_law_minute", "_law_name", "_law_x", "_law_y", "_law_dx", "_law_dy", "_law_start"] : List Str).Nodup := sc_law_where.nd
  exact (xss_cons (xs_asg (xe_var fun _ => pv 2) (xg_tup c (xgs_cons (xg_name fun _ => pg_name (i := 4) nd rfl (by first | exact Or.inl rfl | exact Or.inr rfl)) (xgs_cons (xg_name fun _ => pg_name (i := 5) nd rfl (by first | exact Or.inl rfl | exact Or.inr rfl)) (xgs_cons (xg_name fun _ => pg_name (i := 6) nd rfl (by first | exact Or.inl rfl | exact Or.inr rfl)) (xgs_cons (xg_name fun _ => pg_name (i := 7) nd rfl (by first | exact Or.inl rfl | exact Or.inr rfl)) (xgs_cons (xg_name fun _ => pg_name (i := 8) nd rfl (by first | exact Or.inl rfl | exact Or.inr rfl)) (xgs_cons (xg_name fun _ => pg_name (i := 9) nd rfl (by first | exact Or.inl rfl | exact Or.inr rfl)) xgs_nil)))))) (gs_lenS (gs_lenS (gs_lenS (gs_lenS (gs_lenS (gs_lenS gs_len0))))))))
    (xss_one (xs_ret (xe_tup (xa_cons (xe_call c (fun _ => G_law_part) (by decide) (fun _ => rfl) (fun _ => T.g_law_part) K_law_part B_law_part .nil (fun _ => rfl) (xa_cons (xe_var fun _ => pv 0) (xa_cons (xe_var fun _ => pv 5) (xa_cons (xe_var fun _ => pv 7) (xa_cons (xe_sub c (XE.loose (xe_var fun _ => pv 3)) (XE.loose (xe_var fun _ => pv 9))) xa_nil))))) (xa_cons (xe_call c (fun _ => G_law_part) (by decide) (fun _ => rfl) (fun _ => T.g_law_part) K_law_part B_law_part .nil (fun _ => rfl) (xa_cons (xe_var fun _ => pv 1) (xa_cons (xe_var fun _ => pv 6) (xa_cons (xe_var fun _ => pv 8) (xa_cons (xe_sub c (XE.loose (xe_var fun _ => pv 3)) (XE.loose (xe_var fun _ => pv 9))) xa_nil))))) xa_nil))))))
theorem sc_law_are_parts : FnScope ["_law_actual", "_law_due", "_law_part_here"] ["_law_actual", "_law_due"] (defScope s_law_are_parts) := ⟨rfl, rfl, rfl, by decide +kernel, rfl, by decide +kernel, by decide +kernel⟩
theorem ok_law_are_parts (T : Txt E mg) (hF : ∃ fd, FunD E.K "_law_are_parts" "_law_are_parts" (defArgs s_law_are_parts) (defBody s_law_are_parts) (defScope s_law_are_parts) [] [] (E.cl "_law_are_parts") fd) (h_law_is_integer : FnX P w E mg base 1 (E.cl "_law_is_integer") ["_law_actual"] f_law_is_integer) : FnX P w E mg base 2 (E.cl "_law_are_parts") ["_law_actual", "_law_due"] f_law_are_parts := by
  obtain ⟨fd_law_is_integer, G_law_is_integer, B_law_is_integer, K_law_is_integer⟩ := h_law_is_integer.ex
  obtain ⟨fd, F⟩ := hF
  have hB : Binds E.K fd ["_law_actual", "_law_due"] [] := F.bindsN (fun _ _ _ _ _ _ us hl => match us, hl with | [_, _], _ => rfl)
  refine fnX_mk (m := 3) (k := 1) (p := p_law_are_parts) F sc_law_are_parts rfl rfl hB (fun cdv A outer s H Ex hr => ?_)
  have c := bd_ctx (P := P) (w := w) (E := E) (mg := mg) (base := base) (N := ["_law_actual", "_law_due", "_law_part_here"]) (Ex := Ex) (H := H) (outer := outer) hr
  have nd : (["_law_actual", "_law_due", "_law_part_here"] : List Str).Nodup := sc_law_are_parts.nd
  exact (xss_one (xs_ret (xe_and (xe_isi c (fun _ => rfl) (fun _ => T.n_isinstance) (XE.loose (xe_var fun _ => pv 0)) (fun _ => pe_ty rfl T.n_tuple (by decide +kernel))) (xe_and (ye_cmp (cmp_eq c) (XE.loose (xe_var fun _ => pv 0)) (XE.loose (xe_var fun _ => pv 1)) (nomark _)) (xe_one (ye_all c T.n_all (fun _ => rfl) (fun _ => rfl) (xal_cons (XE.loose (XN.xe (xn_lc c (fun _ => nd) (xlc (own := ([("_law_part_here", 2)] : List (Str × Nat))) c (xi_seq c (xe_var fun _ => pv 0)) (xg_name fun _ => pg_name (i := 2) nd rfl (by first | exact Or.inl rfl | exact Or.inr rfl)) (by decide) xts_nil (xe_call (Ctx.blk c _) (fun _ => G_law_is_integer) (by decide) (fun _ => rfl) (fun _ => T.g_law_is_integer) K_law_is_integer B_law_is_integer .nil (fun _ => rfl) (xa_cons (xe_var fun _ => pv 2) xa_nil))) (fun _ => blkOk_by (N := ["_law_actual", "_law_due", "_law_part_here"]) (sc := defScope s_law_are_parts) (by decide +kernel))))) xal_nil)))))))
theorem sc_law : FnScope ["_law_script", "_law_numbers_here", "_law_width", "_law_height", "_law_table", "_law_ball_here", "_law_rows", "_law_far", "_law_k", "_law_minute", "_law_place", "_law_later"] ["_law_script"] (defScope s_law) := ⟨rfl, rfl, rfl, by decide +kernel, rfl, by decide +kernel, by decide +kernel⟩
theorem ok_law1 {fd : FuncData} (T : Txt E mg) (F : FunD E.K "law" "law" (defArgs s_law) (defBody s_law) (defScope s_law) [] [] (E.cl "law") fd) (h_law_numbers : FnX P w E mg base 2 (E.cl "_law_numbers") ["_law_script", "_law_many"] f_law_numbers) (h_law_size : FnX P w E mg base 1 (E.cl "_law_size") ["_law_number"] f_law_size) (h_Table_init : InX P w E mg base 2 "Table" 3 [.tup []] f_Table_init) (h_law_ball : FnX P w E mg base 1 (E.cl "_law_ball") ["_law_numbers_here", "_law_at", "_law_width", "_law_height", "_law_name"] f_law_ball) (h_law_walk : FnX P w E mg base 2 (E.cl "_law_walk") ["_law_width", "_law_height", "_law_ball_here", "_law_many"] f_law_walk) (h_law_great : FnX P w E mg base 1 (E.cl "_law_great") ["_law_numbers_here", "_law_at"] f_law_great) (h_law_are_parts : FnX P w E mg base 2 (E.cl "_law_are_parts") ["_law_actual", "_law_due"] f_law_are_parts) (h_place_at : FnX P w E mg base 4 (E.cl "place_at") ["table", "ball", "minute"] f_place_at) (h_heading_at : FnX P w E mg base 4 (E.cl "heading_at") ["table", "ball", "minute"] f_heading_at) (h_law_greater : FnX P w E mg base 2 (E.cl "_law_greater") ["_law_numbers_here", "_law_at", "_law_width", "_law_height", "_law_name"] f_law_greater) (h_law_where : FnX P w E mg base 2 (E.cl "_law_where") ["_law_width", "_law_height", "_law_ball_here", "_law_minute"] f_law_where) : FnOk P w E.K mg base (L2.CX P w) 5 (E.cl "law") fd ["_law_script"] (spF E 1 f_law) := by
  obtain ⟨fd_law_numbers, G_law_numbers, B_law_numbers, K_law_numbers⟩ := h_law_numbers.ex
  obtain ⟨fd_law_size, G_law_size, B_law_size, K_law_size⟩ := h_law_size.ex
  obtain ⟨a_Table_init, fd_Table_init, ps_Table_init, dv_Table_init, ds_Table_init, G_Table_init, M_Table_init, B_Table_init, V_Table_init, R_Table_init, B2_Table_init⟩ := h_Table_init.ex
  obtain ⟨fd_law_ball, G_law_ball, B_law_ball, K_law_ball⟩ := h_law_ball.ex
  obtain ⟨fd_law_walk, G_law_walk, B_law_walk, K_law_walk⟩ := h_law_walk.ex
  obtain ⟨fd_law_great, G_law_great, B_law_great, K_law_great⟩ := h_law_great.ex
  obtain ⟨fd_law_are_parts, G_law_are_parts, B_law_are_parts, K_law_are_parts⟩ := h_law_are_parts.ex
  obtain ⟨fd_place_at, G_place_at, B_place_at, K_place_at⟩ := h_place_at.ex
  obtain ⟨fd_heading_at, G_heading_at, B_heading_at, K_heading_at⟩ := h_heading_at.ex
  obtain ⟨fd_law_greater, G_law_greater, B_law_greater, K_law_greater⟩ := h_law_greater.ex
  obtain ⟨fd_law_where, G_law_where, B_law_where, K_law_where⟩ := h_law_where.ex
  refine fnOk_mk (m := 12) (k := 4) (p := p_law) F sc_law rfl rfl rfl (fun cdv A outer s H Ex hr => ?_)
  have c := bd_ctx (P := P) (w := w) (E := E) (mg := mg) (base := base) (N := ["_law_script", "_law_numbers_here", "_law_width", "_law_height", "_law_table", "_law_ball_here", "_law_rows", "_law_far", "_law_k", "_law_minute", "_law_place", "_law_later"]) (Ex := Ex) (H := H) (outer := outer) hr
  have nd : (["_law_script", "_law_numbers_here", "_law_width", "_law_height", "_law_table", "_law_ball_here", "_law_rows", "_law_far", "_law_k", "_law_minute", "_law_place", "_law_later"] : List Str).Nodup := sc_law.nd
  exact (xss_cons (xs_set ⟨fun _ => nd, fun _ => rfl, fun _ => (by first | exact Or.inl rfl | exact Or.inr rfl), fun _ => Or.inl rfl⟩ (xe_call c (fun _ => G_law_numbers) (by decide) (fun _ => rfl) (fun _ => T.g_law_numbers) K_law_numbers B_law_numbers .nil (fun _ => rfl) (xa_cons (xe_var fun _ => pv 0) (xa_cons xe_int xa_nil))))
    (xss_cons (xs_set ⟨fun _ => nd, fun _ => rfl, fun _ => (by first | exact Or.inl rfl | exact Or.inr rfl), fun _ => Or.inl rfl⟩ (xe_call c (fun _ => G_law_size) (by decide) (fun _ => rfl) (fun _ => T.g_law_size) K_law_size B_law_size .nil (fun _ => rfl) (xa_cons (xe_ix c (XE.loose (xe_var fun _ => pv 1)) (XE.loose xe_int)) xa_nil)))
    (xss_cons (xs_set ⟨fun _ => nd, fun _ => rfl, fun _ => (by first | exact Or.inl rfl | exact Or.inr rfl), fun _ => Or.inl rfl⟩ (xe_call c (fun _ => G_law_size) (by decide) (fun _ => rfl) (fun _ => T.g_law_size) K_law_size B_law_size .nil (fun _ => rfl) (xa_cons (xe_ix c (XE.loose (xe_var fun _ => pv 1)) (XE.loose xe_int)) xa_nil)))
    (xss_cons (xs_set ⟨fun _ => nd, fun _ => rfl, fun _ => (by first | exact Or.inl rfl | exact Or.inr rfl), fun _ => Or.inl rfl⟩ (xe_make c M_Table_init (fun _ => G_Table_init) (by decide) (fun _ => rfl) (fun _ => T.g_Table) B2_Table_init V_Table_init R_Table_init (xa_cons (xe_var fun _ => pv 2) (xa_cons (xe_var fun _ => pv 3) xa_nil))))
    (xss_cons (xs_set ⟨fun _ => nd, fun _ => rfl, fun _ => (by first | exact Or.inl rfl | exact Or.inr rfl), fun _ => Or.inl rfl⟩ (xe_call c (fun _ => G_law_ball) (by decide) (fun _ => rfl) (fun _ => T.g_law_ball) K_law_ball B_law_ball .nil (fun _ => rfl) (xa_cons (xe_var fun _ => pv 1) (xa_cons xe_int (xa_cons (xe_var fun _ => pv 2) (xa_cons (xe_var fun _ => pv 3) (xa_cons xe_str xa_nil)))))))
    (xss_cons (xs_set ⟨fun _ => nd, fun _ => rfl, fun _ => (by first | exact Or.inl rfl | exact Or.inr rfl), fun _ => Or.inl rfl⟩ (xe_call c (fun _ => G_law_walk) (by decide) (fun _ => rfl) (fun _ => T.g_law_walk) K_law_walk B_law_walk .nil (fun _ => rfl) (xa_cons (xe_var fun _ => pv 2) (xa_cons (xe_var fun _ => pv 3) (xa_cons (xe_var fun _ => pv 5) (xa_cons xe_int xa_nil))))))
    (xss_cons (xs_set ⟨fun _ => nd, fun _ => rfl, fun _ => (by first | exact Or.inl rfl | exact Or.inr rfl), fun _ => Or.inl rfl⟩ (xe_mul c (XE.loose (xe_mul c (XE.loose (xe_mul c (XE.loose (xe_mul c (XE.loose xe_int) (XE.loose (xe_var fun _ => pv 2)))) (XE.loose xe_int))) (XE.loose (xe_var fun _ => pv 3)))) (XE.loose (xe_call c (fun _ => G_law_great) (by decide) (fun _ => rfl) (fun _ => T.g_law_great) K_law_great B_law_great .nil (fun _ => rfl) (xa_cons (xe_var fun _ => pv 1) (xa_cons xe_int xa_nil))))))
    (xss_cons (xs_for c (xi_range1 (fun _ => rfl) (fun _ => T.n_range) (xal_cons (XE.loose xe_int) xal_nil)) (xg_name fun _ => pg_name (i := 8) nd rfl (by first | exact Or.inl rfl | exact Or.inr rfl))
    (xss_cons (xs_set ⟨fun _ => nd, fun _ => rfl, fun _ => (by first | exact Or.inl rfl | exact Or.inr rfl), fun _ => Or.inl rfl⟩ (xe_add c (XE.loose (xe_add c (XE.loose (xe_ix c (XE.loose (xe_var fun _ => pv 5)) (XE.loose xe_int))) (XE.loose (xe_var fun _ => pv 8)))) (XE.loose (xe_mul c (XE.loose (xe_var fun _ => pv 7)) (XE.loose (xe_mod c (XE.loose (ye_int c T.n_int (fun _ => rfl) (fun _ => rfl) (xal_cons (XE.loose (xe_ix c (XE.loose (xe_var fun _ => pv 1)) (XE.loose (xe_add c (XE.loose xe_int) (XE.loose (xe_var fun _ => pv 8)))))) xal_nil))) (XE.loose xe_int)))))))
    (xss_cons (xs_if (xt_not (zt_val (XE.loose (xe_call c (fun _ => G_law_are_parts) (by decide) (fun _ => rfl) (fun _ => T.g_law_are_parts) K_law_are_parts B_law_are_parts .nil (fun _ => rfl) (xa_cons (xe_call c (fun _ => G_place_at) (by decide) (fun _ => rfl) (fun _ => T.g_place_at) K_place_at B_place_at .nil (fun _ => rfl) (xa_cons (xe_var fun _ => pv 4) (xa_cons (xe_var fun _ => pv 5) (xa_cons (xe_var fun _ => pv 9) xa_nil)))) (xa_cons (xe_slice c (XE.loose (xe_ix c (XE.loose (xe_var fun _ => pv 6)) (XE.loose (xe_var fun _ => pv 8)))) xo_none (xo_some (XE.loose xe_int))) xa_nil)))) c))
    (xss_one (xs_ret xe_bl))
    xss_nil)
    (xss_one (xs_if (xt_not (zt_val (XE.loose (xe_call c (fun _ => G_law_are_parts) (by decide) (fun _ => rfl) (fun _ => T.g_law_are_parts) K_law_are_parts B_law_are_parts .nil (fun _ => rfl) (xa_cons (xe_call c (fun _ => G_heading_at) (by decide) (fun _ => rfl) (fun _ => T.g_heading_at) K_heading_at B_heading_at .nil (fun _ => rfl) (xa_cons (xe_var fun _ => pv 4) (xa_cons (xe_var fun _ => pv 5) (xa_cons (xe_var fun _ => pv 9) xa_nil)))) (xa_cons (xe_slice c (XE.loose (xe_ix c (XE.loose (xe_var fun _ => pv 6)) (XE.loose (xe_var fun _ => pv 8)))) (xo_some (XE.loose xe_int)) xo_none) xa_nil)))) c))
    (xss_one (xs_ret xe_bl))
    xss_nil)))))
    (xss_cons (xs_if (xw_pt (xw_and (zt_cmp (cmp_gt c) (XE.loose (xe_ix c (XE.loose (xe_var fun _ => pv 5)) (XE.loose xe_int))) (XE.loose xe_int) (nomark _)) (xw_and1 (xw_pt (xw_or (zt_cmp (cmp_isNot c) (XE.loose (xe_call c (fun _ => G_place_at) (by decide) (fun _ => rfl) (fun _ => T.g_place_at) K_place_at B_place_at .nil (fun _ => rfl) (xa_cons (xe_var fun _ => pv 4) (xa_cons (xe_var fun _ => pv 5) (xa_cons (xe_sub c (XE.loose (xe_ix c (XE.loose (xe_var fun _ => pv 5)) (XE.loose xe_int))) (XE.loose xe_int)) xa_nil))))) (XE.loose xe_non) (nomark _)) (xw_or1 (zt_cmp (cmp_isNot c) (XE.loose (xe_call c (fun _ => G_heading_at) (by decide) (fun _ => rfl) (fun _ => T.g_heading_at) K_heading_at B_heading_at .nil (fun _ => rfl) (xa_cons (xe_var fun _ => pv 4) (xa_cons (xe_var fun _ => pv 5) (xa_cons xe_int xa_nil))))) (XE.loose xe_non) (nomark _))))))))
    (xss_one (xs_ret xe_bl))
    xss_nil)
    (xss_cons (xs_set ⟨fun _ => nd, fun _ => rfl, fun _ => (by first | exact Or.inl rfl | exact Or.inr rfl), fun _ => Or.inl rfl⟩ (xe_call c (fun _ => G_law_great) (by decide) (fun _ => rfl) (fun _ => T.g_law_great) K_law_great B_law_great .nil (fun _ => rfl) (xa_cons (xe_var fun _ => pv 1) (xa_cons xe_int xa_nil))))
    (xss_cons (xs_set ⟨fun _ => nd, fun _ => rfl, fun _ => (by first | exact Or.inl rfl | exact Or.inr rfl), fun _ => Or.inl rfl⟩ (xe_call c (fun _ => G_law_great) (by decide) (fun _ => rfl) (fun _ => T.g_law_great) K_law_great B_law_great .nil (fun _ => rfl) (xa_cons (xe_var fun _ => pv 1) (xa_cons xe_int xa_nil))))
    (xss_cons (xs_set ⟨fun _ => nd, fun _ => rfl, fun _ => (by first | exact Or.inl rfl | exact Or.inr rfl), fun _ => Or.inl rfl⟩ (xe_call c (fun _ => G_law_greater) (by decide) (fun _ => rfl) (fun _ => T.g_law_greater) K_law_greater B_law_greater .nil (fun _ => rfl) (xa_cons (xe_var fun _ => pv 1) (xa_cons xe_int (xa_cons (xe_var fun _ => pv 2) (xa_cons (xe_var fun _ => pv 3) (xa_cons xe_str xa_nil)))))))
    (xss_cons (xs_set ⟨fun _ => nd, fun _ => rfl, fun _ => (by first | exact Or.inl rfl | exact Or.inr rfl), fun _ => Or.inl rfl⟩ (xe_sub c (XE.loose (xe_add c (XE.loose (xe_ix c (XE.loose (xe_var fun _ => pv 5)) (XE.loose xe_int))) (XE.loose (xe_call c (fun _ => G_law_great) (by decide) (fun _ => rfl) (fun _ => T.g_law_great) K_law_great B_law_great .nil (fun _ => rfl) (xa_cons (xe_var fun _ => pv 1) (xa_cons xe_int xa_nil)))))) (XE.loose xe_int)))
    (xss_cons (xs_set ⟨fun _ => nd, fun _ => rfl, fun _ => (by first | exact Or.inl rfl | exact Or.inr rfl), fun _ => Or.inl rfl⟩ (xe_call c (fun _ => G_law_where) (by decide) (fun _ => rfl) (fun _ => T.g_law_where) K_law_where B_law_where .nil (fun _ => rfl) (xa_cons (xe_var fun _ => pv 2) (xa_cons (xe_var fun _ => pv 3) (xa_cons (xe_var fun _ => pv 5) (xa_cons (xe_var fun _ => pv 9) xa_nil))))))
    (xss_cons (xs_set ⟨fun _ => nd, fun _ => rfl, fun _ => (by first | exact Or.inl rfl | exact Or.inr rfl), fun _ => Or.inl rfl⟩ (xe_call c (fun _ => G_law_where) (by decide) (fun _ => rfl) (fun _ => T.g_law_where) K_law_where B_law_where .nil (fun _ => rfl) (xa_cons (xe_var fun _ => pv 2) (xa_cons (xe_var fun _ => pv 3) (xa_cons (xe_var fun _ => pv 5) (xa_cons (xe_add c (XE.loose (xe_var fun _ => pv 9)) (XE.loose xe_int)) xa_nil))))))
    (xss_cons (xs_if (xt_not (zt_val (XE.loose (xe_call c (fun _ => G_law_are_parts) (by decide) (fun _ => rfl) (fun _ => T.g_law_are_parts) K_law_are_parts B_law_are_parts .nil (fun _ => rfl) (xa_cons (xe_call c (fun _ => G_heading_at) (by decide) (fun _ => rfl) (fun _ => T.g_heading_at) K_heading_at B_heading_at .nil (fun _ => rfl) (xa_cons (xe_make c M_Table_init (fun _ => G_Table_init) (by decide) (fun _ => rfl) (fun _ => T.g_Table) B2_Table_init V_Table_init R_Table_init (xa_cons (xe_var fun _ => pv 2) (xa_cons (xe_var fun _ => pv 3) xa_nil))) (xa_cons (xe_var fun _ => pv 5) (xa_cons (xe_var fun _ => pv 9) xa_nil)))) (xa_cons (xe_tup (xa_cons (xe_sub c (XE.loose (xe_ix c (XE.loose (xe_var fun _ => pv 11)) (XE.loose xe_int))) (XE.loose (xe_ix c (XE.loose (xe_var fun _ => pv 10)) (XE.loose xe_int)))) (xa_cons (xe_sub c (XE.loose (xe_ix c (XE.loose (xe_var fun _ => pv 11)) (XE.loose xe_int))) (XE.loose (xe_ix c (XE.loose (xe_var fun _ => pv 10)) (XE.loose xe_int)))) xa_nil))) xa_nil)))) c))
    (xss_one (xs_ret xe_bl))
    xss_nil)
    (xss_one (xs_ret (xe_call c (fun _ => G_law_are_parts) (by decide) (fun _ => rfl) (fun _ => T.g_law_are_parts) K_law_are_parts B_law_are_parts .nil (fun _ => rfl) (xa_cons (xe_call c (fun _ => G_place_at) (by decide) (fun _ => rfl) (fun _ => T.g_place_at) K_place_at B_place_at .nil (fun _ => rfl) (xa_cons (xe_make c M_Table_init (fun _ => G_Table_init) (by decide) (fun _ => rfl) (fun _ => T.g_Table) B2_Table_init V_Table_init R_Table_init (xa_cons (xe_var fun _ => pv 2) (xa_cons (xe_var fun _ => pv 3) xa_nil))) (xa_cons (xe_var fun _ => pv 5) (xa_cons (xe_var fun _ => pv 9) xa_nil)))) (xa_cons (xe_var fun _ => pv 10) xa_nil)))))))))))))))))))))
end
/-! ### the top -/
def d_require : He.DefD := ⟨("require", none), "require", "require", defArgs s_require, defBody s_require, defScope s_require, [], []⟩
def d_Table_is_point : He.DefD := ⟨("Table", some "is_point"), "is_point", "Table.is_point", defArgs s_Table_is_point, defBody s_Table_is_point, defScope s_Table_is_point, [], []⟩
def d_Table_init : He.DefD := ⟨("Table", some "__init__"), "__init__", "Table.__init__", defArgs s_Table_init, defBody s_Table_init, defScope s_Table_init, [.adr (He.dflAt ("Table", some "__init__") 0)], []⟩
def d_is_name : He.DefD := ⟨("is_name", none), "is_name", "is_name", defArgs s_is_name, defBody s_is_name, defScope s_is_name, [], []⟩
def d_is_ball : He.DefD := ⟨("is_ball", none), "is_ball", "is_ball", defArgs s_is_ball, defBody s_is_ball, defScope s_is_ball, [], []⟩
def d_check_ball : He.DefD := ⟨("check_ball", none), "check_ball", "check_ball", defArgs s_check_ball, defBody s_check_ball, defScope s_check_ball, [], []⟩
def d_phase_of : He.DefD := ⟨("phase_of", none), "phase_of", "phase_of", defArgs s_phase_of, defBody s_phase_of, defScope s_phase_of, [], []⟩
def d_fold : He.DefD := ⟨("fold", none), "fold", "fold", defArgs s_fold, defBody s_fold, defScope s_fold, [], []⟩
def d_part_at : He.DefD := ⟨("part_at", none), "part_at", "part_at", defArgs s_part_at, defBody s_part_at, defScope s_part_at, [], []⟩
def d_step_at : He.DefD := ⟨("step_at", none), "step_at", "step_at", defArgs s_step_at, defBody s_step_at, defScope s_step_at, [], []⟩
def d_parts_of : He.DefD := ⟨("parts_of", none), "parts_of", "parts_of", defArgs s_parts_of, defBody s_parts_of, defScope s_parts_of, [], []⟩
def d_place_at : He.DefD := ⟨("place_at", none), "place_at", "place_at", defArgs s_place_at, defBody s_place_at, defScope s_place_at, [], []⟩
def d_heading_at : He.DefD := ⟨("heading_at", none), "heading_at", "heading_at", defArgs s_heading_at, defBody s_heading_at, defScope s_heading_at, [], []⟩
def d_law_row : He.DefD := ⟨("_law_row", none), "_law_row", "_law_row", defArgs s_law_row, defBody s_law_row, defScope s_law_row, [], []⟩
def d_law_numbers : He.DefD := ⟨("_law_numbers", none), "_law_numbers", "_law_numbers", defArgs s_law_numbers, defBody s_law_numbers, defScope s_law_numbers, [], []⟩
def d_law_is_integer : He.DefD := ⟨("_law_is_integer", none), "_law_is_integer", "_law_is_integer", defArgs s_law_is_integer, defBody s_law_is_integer, defScope s_law_is_integer, [], []⟩
def d_law_size : He.DefD := ⟨("_law_size", none), "_law_size", "_law_size", defArgs s_law_size, defBody s_law_size, defScope s_law_size, [], []⟩
def d_law_ball : He.DefD := ⟨("_law_ball", none), "_law_ball", "_law_ball", defArgs s_law_ball, defBody s_law_ball, defScope s_law_ball, [], []⟩
def d_law_turned : He.DefD := ⟨("_law_turned", none), "_law_turned", "_law_turned", defArgs s_law_turned, defBody s_law_turned, defScope s_law_turned, [], []⟩
def d_law_walk : He.DefD := ⟨("_law_walk", none), "_law_walk", "_law_walk", defArgs s_law_walk, defBody s_law_walk, defScope s_law_walk, [], []⟩
def d_law_great : He.DefD := ⟨("_law_great", none), "_law_great", "_law_great", defArgs s_law_great, defBody s_law_great, defScope s_law_great, [], []⟩
def d_law_greater : He.DefD := ⟨("_law_greater", none), "_law_greater", "_law_greater", defArgs s_law_greater, defBody s_law_greater, defScope s_law_greater, [], []⟩
def d_law_part : He.DefD := ⟨("_law_part", none), "_law_part", "_law_part", defArgs s_law_part, defBody s_law_part, defScope s_law_part, [], []⟩
def d_law_where : He.DefD := ⟨("_law_where", none), "_law_where", "_law_where", defArgs s_law_where, defBody s_law_where, defScope s_law_where, [], []⟩
def d_law_are_parts : He.DefD := ⟨("_law_are_parts", none), "_law_are_parts", "_law_are_parts", defArgs s_law_are_parts, defBody s_law_are_parts, defScope s_law_are_parts, [], []⟩
def d_law : He.DefD := ⟨("law", none), "law", "law", defArgs s_law, defBody s_law, defScope s_law, [], []⟩
def fn : List He.DefD := [d_require, d_Table_is_point, d_Table_init, d_is_name, d_is_ball, d_check_ball, d_phase_of, d_fold, d_part_at, d_step_at, d_parts_of, d_place_at, d_heading_at, d_law_row, d_law_numbers, d_law_is_integer, d_law_size, d_law_ball, d_law_turned, d_law_walk, d_law_great, d_law_greater, d_law_part, d_law_where, d_law_are_parts, d_law]
def fa : List He.Fa := [.free "abs", .free "all", .free "bool", .free "enumerate", .free "int", .free "isinstance", .free "len", .free "max", .free "min", .free "range", .free "tuple", .glo "InvalidBall", .glo "InvalidTable", .glo "Table", .glo "_law_are_parts", .glo "_law_ball", .glo "_law_great", .glo "_law_greater", .glo "_law_is_integer", .glo "_law_numbers", .glo "_law_part", .glo "_law_row", .glo "_law_size", .glo "_law_turned", .glo "_law_walk", .glo "_law_where", .glo "check_ball", .glo "fold", .glo "heading_at", .glo "is_ball", .glo "is_name", .glo "part_at", .glo "parts_of", .glo "phase_of", .glo "place_at", .glo "require", .glo "step_at", .glo "law", .cls "Table", .noat "Table" "pockets", .noat "Table" "height", .noat "Table" "width", .meth "Table" "is_point", .mkr "Table", .exc "InvalidBall", .exc "InvalidTable"]
def ex : List (PySem.W.Frag → Bool) := [conB "MOST" c_MOST, conB "MOST_NAME_CHARS" c_MOST_NAME_CHARS, conB "MOST_POCKETS" c_MOST_POCKETS, conB "NAME_CHARS" c_NAME_CHARS, dflX ("Table", some "__init__") 0 (.tup [])]
abbrev R : PySem.W.OpenRow := PySem.W.OpenLaw.row PySem.Challenge.rw_cushioned_k09_places_and_headings
abbrev hk : PySem.W.Hook := hookE 6 fa ex fn
def ob (s : PySem.W.SharedT) : He.AlD := obsEG 6 fa ex fn (HandSHeadRun.getT s)
theorem ob_eq (s : PySem.W.SharedT) : ob s = hk.obs s.abs := obsEG_eq (HandSHeadRun.getT_eq s)
def loose0 : List Str := ["_wall", "CushionedError", "InvalidTable", "InvalidBall", "MOST", "MOST_POCKETS", "require", "Table", "NAME_CHARS", "MOST_NAME_CHARS", "is_name", "is_ball", "check_ball", "phase_of", "fold", "part_at", "step_at", "parts_of", "place_at", "heading_at", "_law_row", "_law_numbers", "_law_is_integer", "_law_size", "_law_ball", "_law_turned", "_law_walk", "_law_great", "_law_greater", "_law_part"]
def loose1 : List Str := ["_law_where", "_law_are_parts"]
def looseA : List Str := loose0 ++ loose1
theorem run (w : World) : HandSHeadRun.RunEq R (PySem.W.view R.prog [37]) hk ob 20000 looseA w := by
  intro os
  kernel_rfl
theorem facts {P : Program} {w : World} {K : PySem.W.Frag} {h : Heap} {mg : Str → Option Value} {f : Addr} (X : K.In h) (G : h.Ns mainGlobals mg) (hfa : mg ("law" : Str) = some (.ref f)) (c : SaysE fa ex fn K) :
    ∃ fd : FuncData, (∀ (s : Shared) (v : Value), BindsTo s fd ⟨[v], []⟩ [("_law_script", v)]) ∧ ∀ base : Heap, K.In base → base.Ns mainGlobals mg → FnOk P w K mg base (L2.CX P w) 5 f fd ["_law_script"] (spF (mkE K) 1 f_law) := by
  have T : Txt (mkE K) mg := ⟨He.free_ok X G (c.fact 0 (f := .free "abs") rfl), He.free_ok X G (c.fact 1 (f := .free "all") rfl), He.free_ok X G (c.fact 2 (f := .free "bool") rfl), He.free_ok X G (c.fact 3 (f := .free "enumerate") rfl), He.free_ok X G (c.fact 4 (f := .free "int") rfl), He.free_ok X G (c.fact 5 (f := .free "isinstance") rfl), He.free_ok X G (c.fact 6 (f := .free "len") rfl), He.free_ok X G (c.fact 7 (f := .free "max") rfl), He.free_ok X G (c.fact 8 (f := .free "min") rfl), He.free_ok X G (c.fact 9 (f := .free "range") rfl), He.free_ok X G (c.fact 10 (f := .free "tuple") rfl), ⟨con_ok (E := mkE K) X G (c.ext 0 (f := conB "MOST" c_MOST) rfl)⟩, ⟨con_ok (E := mkE K) X G (c.ext 1 (f := conB "MOST_NAME_CHARS" c_MOST_NAME_CHARS) rfl)⟩, ⟨con_ok (E := mkE K) X G (c.ext 2 (f := conB "MOST_POCKETS" c_MOST_POCKETS) rfl)⟩, ⟨con_ok (E := mkE K) X G (c.ext 3 (f := conB "NAME_CHARS" c_NAME_CHARS) rfl)⟩, He.glo_ok X G (c.fact 11 (f := .glo "InvalidBall") rfl), He.glo_ok X G (c.fact 12 (f := .glo "InvalidTable") rfl), He.glo_ok X G (c.fact 13 (f := .glo "Table") rfl), He.glo_ok X G (c.fact 14 (f := .glo "_law_are_parts") rfl), He.glo_ok X G (c.fact 15 (f := .glo "_law_ball") rfl), He.glo_ok X G (c.fact 16 (f := .glo "_law_great") rfl), He.glo_ok X G (c.fact 17 (f := .glo "_law_greater") rfl), He.glo_ok X G (c.fact 18 (f := .glo "_law_is_integer") rfl), He.glo_ok X G (c.fact 19 (f := .glo "_law_numbers") rfl), He.glo_ok X G (c.fact 20 (f := .glo "_law_part") rfl), He.glo_ok X G (c.fact 21 (f := .glo "_law_row") rfl), He.glo_ok X G (c.fact 22 (f := .glo "_law_size") rfl), He.glo_ok X G (c.fact 23 (f := .glo "_law_turned") rfl), He.glo_ok X G (c.fact 24 (f := .glo "_law_walk") rfl), He.glo_ok X G (c.fact 25 (f := .glo "_law_where") rfl), He.glo_ok X G (c.fact 26 (f := .glo "check_ball") rfl), He.glo_ok X G (c.fact 27 (f := .glo "fold") rfl), He.glo_ok X G (c.fact 28 (f := .glo "heading_at") rfl), He.glo_ok X G (c.fact 29 (f := .glo "is_ball") rfl), He.glo_ok X G (c.fact 30 (f := .glo "is_name") rfl), He.glo_ok X G (c.fact 31 (f := .glo "part_at") rfl), He.glo_ok X G (c.fact 32 (f := .glo "parts_of") rfl), He.glo_ok X G (c.fact 33 (f := .glo "phase_of") rfl), He.glo_ok X G (c.fact 34 (f := .glo "place_at") rfl), He.glo_ok X G (c.fact 35 (f := .glo "require") rfl), He.glo_ok X G (c.fact 36 (f := .glo "step_at") rfl), ⟨He.cls_ok (c.fact 38 (f := .cls "Table") rfl), (no_cons (He.noat_ok (c.fact 41 (f := .noat "Table" "width") rfl)) (no_cons (He.noat_ok (c.fact 40 (f := .noat "Table" "height") rfl)) (no_cons (He.noat_ok (c.fact 39 (f := .noat "Table" "pockets") rfl)) no_nil)))⟩, He.meth_ok (c.fact 42 (f := .meth "Table" "is_point") rfl), He.mkr_ok (c.fact 43 (f := .mkr "Table") rfl), c.ext 4 (f := dflX ("Table", some "__init__") 0 (.tup [])) rfl, He.exc_ok (c.fact 44 (f := .exc "InvalidBall") rfl), He.exc_ok (c.fact 45 (f := .exc "InvalidTable") rfl)⟩
  have e := hfa.symm.trans (He.glo_ok X G (c.fact 37 (f := .glo "law") rfl))
  cases e
  obtain ⟨fd0, F0⟩ := c.def_ 25 (d := d_law) rfl
  have b := FunD.bindsA (ps := ["_law_script"]) F0 fun _ _ _ _ _ _ us hl => match us, hl with | [_], _ => rfl
  refine ⟨fd0, fun s v => b s [v] rfl, fun base hK hn => ?_⟩
  have h_require := ok_require (P := P) (w := w) (base := base) T (c.def_ 0 (d := d_require) rfl)
  have h_Table_is_point := ok_Table_is_point (P := P) (w := w) (base := base) T (c.def_ 1 (d := d_Table_is_point) rfl)
  have h_Table_init := ok_Table_init (P := P) (w := w) (base := base) T (c.def_ 2 (d := d_Table_init) rfl) h_require h_Table_is_point
  have h_is_name := ok_is_name (P := P) (w := w) (base := base) T (c.def_ 3 (d := d_is_name) rfl)
  have h_is_ball := ok_is_ball (P := P) (w := w) (base := base) T (c.def_ 4 (d := d_is_ball) rfl) h_is_name h_Table_is_point
  have h_check_ball := ok_check_ball (P := P) (w := w) (base := base) T (c.def_ 5 (d := d_check_ball) rfl) h_is_ball
  have h_phase_of := ok_phase_of (P := P) (w := w) (base := base) T (c.def_ 6 (d := d_phase_of) rfl)
  have h_fold := ok_fold (P := P) (w := w) (base := base) T (c.def_ 7 (d := d_fold) rfl)
  have h_part_at := ok_part_at (P := P) (w := w) (base := base) T (c.def_ 8 (d := d_part_at) rfl) h_fold h_phase_of
  have h_step_at := ok_step_at (P := P) (w := w) (base := base) T (c.def_ 9 (d := d_step_at) rfl) h_phase_of
  have h_parts_of := ok_parts_of (P := P) (w := w) (base := base) T (c.def_ 10 (d := d_parts_of) rfl)
  have h_place_at := ok_place_at (P := P) (w := w) (base := base) T (c.def_ 11 (d := d_place_at) rfl) h_check_ball h_parts_of h_part_at
  have h_heading_at := ok_heading_at (P := P) (w := w) (base := base) T (c.def_ 12 (d := d_heading_at) rfl) h_check_ball h_parts_of h_step_at
  have h_law_row := ok_law_row (P := P) (w := w) (base := base) T (c.def_ 13 (d := d_law_row) rfl)
  have h_law_numbers := ok_law_numbers (P := P) (w := w) (base := base) T (c.def_ 14 (d := d_law_numbers) rfl) h_law_row
  have h_law_is_integer := ok_law_is_integer (P := P) (w := w) (base := base) T (c.def_ 15 (d := d_law_is_integer) rfl)
  have h_law_size := ok_law_size (P := P) (w := w) (base := base) T (c.def_ 16 (d := d_law_size) rfl)
  have h_law_ball := ok_law_ball (P := P) (w := w) (base := base) T (c.def_ 17 (d := d_law_ball) rfl)
  have h_law_turned := ok_law_turned (P := P) (w := w) (base := base) T (c.def_ 18 (d := d_law_turned) rfl)
  have h_law_walk := ok_law_walk (P := P) (w := w) (base := base) T (c.def_ 19 (d := d_law_walk) rfl) h_law_turned
  have h_law_great := ok_law_great (P := P) (w := w) (base := base) T (c.def_ 20 (d := d_law_great) rfl)
  have h_law_greater := ok_law_greater (P := P) (w := w) (base := base) T (c.def_ 21 (d := d_law_greater) rfl) h_law_great
  have h_law_part := ok_law_part (P := P) (w := w) (base := base) T (c.def_ 22 (d := d_law_part) rfl)
  have h_law_where := ok_law_where (P := P) (w := w) (base := base) T (c.def_ 23 (d := d_law_where) rfl) h_law_part
  have h_law_are_parts := ok_law_are_parts (P := P) (w := w) (base := base) T (c.def_ 24 (d := d_law_are_parts) rfl) h_law_is_integer
  exact ok_law1 (P := P) (w := w) (base := base) T F0 h_law_numbers h_law_size h_Table_init h_law_ball h_law_walk h_law_great h_law_are_parts h_place_at h_heading_at h_law_greater h_law_where
end DL
theorem DL.holds_of (hl : ∀ ns : List Int, ns.length ≤ 63 → DL.f_law [.kl (ns.map .int)] = .ok (.bl true)) : PySem.Challenge.rw_cushioned_k09_places_and_headings.Holds := by
  open PySem PySem.W PySem.Calls PyProof.Rows in
  w_on; o_law
  refine HandSHeadRun.head_any (r := OpenLaw.row PySem.Challenge.rw_cushioned_k09_places_and_headings) (q := view (OpenLaw.row PySem.Challenge.rw_cushioned_k09_places_and_headings).prog [37]) (H := DL.hk) (ob := DL.ob) (M := 20000) (loose := DL.looseA) (d := HandSHeadRun.topDef (OpenLaw.row PySem.Challenge.rw_cushioned_k09_places_and_headings).prog 37) (kwd := []) DL.ob_eq
    (by kernel_rfl) (fun s => by kernel_rfl) DL.run (by kernel_rfl) (by kernel_rfl) (by kernel_rfl) (by rfl) (by first | assumption | decide +kernel) (by decide +kernel) ⟨rfl, rfl, rfl, rfl, rfl, by decide +kernel⟩ ?hw ?hc
  case hw => w_witness2
  case hc =>
    refine L2.walk_ofE (l := PySem.Challenge.rw_cushioned_k09_places_and_headings) (n := 63) (k := 5) (x := "_law_script") (CX := L2.CX0) rfl (by decide) (by kernel_rfl) ⟨rfl, by decide, by decide⟩ ?F (fun _ _ _ _ z => z)
    intro w mg fa h Y G hmg0
    obtain ⟨K, KX, c⟩ := Y
    have hmg : mg ("law" : PySem.Str) = some (.ref fa) := by
      have e : (HandSHeadRun.topDef (OpenLaw.row PySem.Challenge.rw_cushioned_k09_places_and_headings).prog 37).name = ("law" : PySem.Str) := by kernel_rfl
      rw [← e]
      exact hmg0
    obtain ⟨fd, hb, hF⟩ := DL.facts (P := (PySem.Challenge.rw_cushioned_k09_places_and_headings).prog) (w := w) KX G hmg c
    exact ⟨K, fd, fun vs H Q _ => DL.spF (DL.mkE K) 1 DL.f_law vs H Q fun _ _ _ => False, KX, hb, fun H a ns hl' _ hS => DL.law_sp hl H a ns hl' hS, fun base hK hn => DL.fnOk_nox (hF base hK hn)⟩
end

theorem PySem.Challenge.cw_cushioned_k09_places_and_headings_holds : PySem.Challenge.rw_cushioned_k09_places_and_headings.Holds := by
  exact (DL.holds_of DL.law_k09)
