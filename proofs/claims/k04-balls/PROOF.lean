import PyProof.Rows.All
import Wide.All
import OpenK.AllK
import Wide.FinOn
import HandS.Base
import HandS.Call
import HandS.List
import HandS.Comp
import HandS.Ends
import HandS.Exc
import HandS.TryOnly
import HandS.ExcOwn
import HandS.Words
import HandS.Iter
import HandS.Walk
import HandS.Wide
import HandS.Gcd
import HandS.IsInst
import HandS.CallSlots
import HandS.WordsExc
import HandS.Text
import HandS.Deep
import HandS.Flow
import HandS.StrMore
import KE.SortData
import HandS.Defaults
import HandS.HeadEnd
import HandS.Head0
import HandS.Head1
import HandS.Head2
import HandS.HeadHook1
import HandS.HeadHook2
import KE.GoesEnum
import HandS.Conv
import HandS.Codes
import KE.DataMinMax
import HandS.SortKw
import HandS.MakeKwOnly
import HandS.RaiseMore
import PyProof.ReprRoads
import PyProof.FitsInt
import HandS.ExcIs
import HandS.Style
import HandS.Strs
import HandS.NoneIn
import PyProof.ReprLen
import HandS.Head3
import PySem.Challenge.RW_cushioned_k04_balls
set_option Elab.async false
section
set_option linter.all false
set_option maxRecDepth 100000
set_option maxHeartbeats 4000000
namespace DL
open PySem PySem.Spec L2

/-! ## data -/
inductive D where
  | non | bl (b : Bool) | int (i : Int) | str (x : Str)
  | tup (ds : List D) | lst (ds : List D) | kl (ds : List D)
  | ins (C : Str) (ns : List Str) (ds : List D)
  | dk (ks : List Key) (ds : List D)
  | dt (ks : List (List Key)) (ds : List D)

/-- the surroundings: the written part, where each class stands -/
structure Am where
  K : PySem.W.Frag
  cl : Str → Addr

mutual
def Rep (E : Am) (F : Hp) : D → V → Prop
  | .non, v => v = .non
  | .bl b, v => v = .bl b
  | .int i, v => v = .int i
  | .str x, v => v = .str x
  | .tup ds, v => ∃ a vs, v = .ref a ∧ SqT E.K F a vs ∧ RepL E F ds vs
  | .lst ds, v => ∃ a vs, v = .ref a ∧ F a = some (.lst vs) ∧ RepL E F ds vs
  | .kl ds, v => ∃ a vs, v = .ref a ∧ SqL E.K F a vs ∧ RepL E F ds vs
  | .ins C ns ds, v => ∃ a dx vs, v = .ref a ∧ F a = some (.ins (E.cl C) dx (ns.zip vs)) ∧ ns.length = ds.length ∧ RepL E F ds vs
  | .dk ks ds, v => ∃ a vs, v = .ref a ∧ F a = some (.dK (ks.zip vs)) ∧ ks.length = ds.length ∧ RepL E F ds vs
  | .dt ks ds, v => ∃ a vs, v = .ref a ∧ F a = some (.dT (ks.zip vs)) ∧ ks.length = ds.length ∧ RepL E F ds vs
def RepL (E : Am) (F : Hp) : List D → List V → Prop
  | [], vs => vs = []
  | d :: ds, vs => ∃ v r, vs = v :: r ∧ Rep E F d v ∧ RepL E F ds r
end

theorem sqT_mono {K : PySem.W.Frag} {H H' : Hp} {a : Addr} {xs : List V} (e : Same H H') (h : SqT K H a xs) : SqT K H' a xs := by
  rcases h with (h | ⟨o, h⟩) | h
  · exact .inl (.inl (e _ _ h))
  · exact .inl (.inr ⟨o, e _ _ h⟩)
  · exact .inr h
theorem sqL_mono {K : PySem.W.Frag} {H H' : Hp} {a : Addr} {xs : List V} (e : Same H H') (h : SqL K H a xs) : SqL K H' a xs := e.seq h

mutual
theorem Rep.mono {E : Am} {F F' : Hp} (e : Same F F') : ∀ (d : D) (v : V), Rep E F d v → Rep E F' d v
  | .non, v, h => h
  | .bl _, v, h => h
  | .int _, v, h => h
  | .str _, v, h => h
  | .tup ds, v, h => by
    obtain ⟨a, vs, h1, h2, h3⟩ := h
    exact ⟨a, vs, h1, sqT_mono e h2, RepL.mono e ds vs h3⟩
  | .lst ds, v, h => by
    obtain ⟨a, vs, h1, h2, h3⟩ := h
    exact ⟨a, vs, h1, e _ _ h2, RepL.mono e ds vs h3⟩
  | .kl ds, v, h => by
    obtain ⟨a, vs, h1, h2, h3⟩ := h
    exact ⟨a, vs, h1, sqL_mono e h2, RepL.mono e ds vs h3⟩
  | .ins C ns ds, v, h => by
    obtain ⟨a, dx, vs, h1, h2, h3, h4⟩ := h
    exact ⟨a, dx, vs, h1, e _ _ h2, h3, RepL.mono e ds vs h4⟩
  | .dk ks ds, v, h => by
    obtain ⟨a, vs, h1, h2, h3, h4⟩ := h
    exact ⟨a, vs, h1, e _ _ h2, h3, RepL.mono e ds vs h4⟩
  | .dt ks ds, v, h => by
    obtain ⟨a, vs, h1, h2, h3, h4⟩ := h
    exact ⟨a, vs, h1, e _ _ h2, h3, RepL.mono e ds vs h4⟩
theorem RepL.mono {E : Am} {F F' : Hp} (e : Same F F') : ∀ (ds : List D) (vs : List V), RepL E F ds vs → RepL E F' ds vs
  | [], vs, h => h
  | d :: ds, vs, h => by
    obtain ⟨v, r, h1, h2, h3⟩ := h
    exact ⟨v, r, h1, Rep.mono e d v h2, RepL.mono e ds r h3⟩
end
theorem RepL.nil {E : Am} {F : Hp} : RepL E F [] [] := rfl
theorem RepL.cons {E : Am} {F : Hp} {d : D} {ds : List D} {v : V} {vs : List V} (h : Rep E F d v) (t : RepL E F ds vs) : RepL E F (d :: ds) (v :: vs) := ⟨v, vs, rfl, h, t⟩
theorem RepL.len {E : Am} {F : Hp} : ∀ {ds : List D} {vs : List V}, RepL E F ds vs → ds.length = vs.length
  | [], vs, h => by cases h; rfl
  | d :: ds, vs, h => by
    obtain ⟨v, r, rfl, _, t⟩ := h
    rw [List.length_cons, List.length_cons, RepL.len t]
theorem RepL.get {E : Am} {F : Hp} : ∀ {ds : List D} {vs : List V} {i : Nat} {d : D}, RepL E F ds vs → ds[i]? = some d → ∃ v, vs[i]? = some v ∧ Rep E F d v
  | [], vs, i, d, _, e => by simp at e
  | x :: ds, vs, 0, d, h, e => by
    obtain ⟨v, r, rfl, h1, _⟩ := h
    simp at e; subst e
    exact ⟨v, rfl, h1⟩
  | x :: ds, vs, i + 1, d, h, e => by
    obtain ⟨v, r, rfl, _, t⟩ := h
    obtain ⟨u, e1, e2⟩ := RepL.get (i := i) t (by simpa using e)
    exact ⟨u, by simpa using e1, e2⟩
theorem RepL.getV {E : Am} {F : Hp} {ds : List D} {vs : List V} {i : Nat} {v : V} (h : RepL E F ds vs) (e : vs[i]? = some v) : ∃ d, ds[i]? = some d ∧ Rep E F d v := by
  have hl := h.len
  have hi : i < vs.length := (List.getElem?_eq_some_iff.mp e).1
  obtain ⟨u, e1, e2⟩ := h.get (i := i) (d := ds[i]'(by omega)) (by simp [show i < ds.length by omega])
  rw [e] at e1; cases e1
  exact ⟨_, by simp [show i < ds.length by omega], e2⟩
theorem RepL.append {E : Am} {F : Hp} : ∀ {ds es : List D} {vs us : List V}, RepL E F ds vs → RepL E F es us → RepL E F (ds ++ es) (vs ++ us)
  | [], es, vs, us, h, t => by cases h; exact t
  | d :: ds, es, vs, us, h, t => by
    obtain ⟨v, r, rfl, h1, h2⟩ := h
    exact .cons h1 (RepL.append h2 t)
theorem RepL.take {E : Am} {F : Hp} : ∀ {ds : List D} {vs : List V} (n : Nat), RepL E F ds vs → RepL E F (ds.take n) (vs.take n)
  | ds, vs, 0, h => by simp; rfl
  | [], vs, n + 1, h => by cases h; exact rfl
  | d :: ds, vs, n + 1, h => by
    obtain ⟨v, r, rfl, h1, h2⟩ := h
    exact .cons h1 (RepL.take n h2)
theorem RepL.drop {E : Am} {F : Hp} : ∀ {ds : List D} {vs : List V} (n : Nat), RepL E F ds vs → RepL E F (ds.drop n) (vs.drop n)
  | ds, vs, 0, h => h
  | [], vs, n + 1, h => by cases h; exact rfl
  | d :: ds, vs, n + 1, h => by
    obtain ⟨v, r, rfl, h1, h2⟩ := h
    exact RepL.drop n h2
theorem RepL.set {E : Am} {F : Hp} {d : D} {v : V} (hd : Rep E F d v) : ∀ {ds : List D} {vs : List V} (n : Nat), RepL E F ds vs → RepL E F (ds.set n d) (vs.set n v)
  | [], vs, n, h => by cases h; exact rfl
  | x :: ds, vs, 0, h => by
    obtain ⟨u, r, rfl, h1, h2⟩ := h
    exact .cons hd h2
  | x :: ds, vs, n + 1, h => by
    obtain ⟨u, r, rfl, h1, h2⟩ := h
    exact .cons h1 (RepL.set hd n h2)
theorem RepL.nilL {E : Am} {F : Hp} {vs : List V} (h : RepL E F [] vs) : vs = [] := h

/-! ## heaps that grow: the frozen part F, the whole H -/
structure Ext (F H F' H' : Hp) : Prop where
  f : Same F F'
  h : Same H H'
  fh : Same F' H'
  nf : ∀ l, H l ≠ none → F' l = F l ∨ ∃ vs, H l = some (.tup vs)
theorem Ext.refl {F H : Hp} (s : Same F H) : Ext F H F H := ⟨Same.refl F, Same.refl H, s, fun _ _ => .inl rfl⟩
theorem Ext.trans {F H F1 H1 F2 H2 : Hp} (a : Ext F H F1 H1) (b : Ext F1 H1 F2 H2) : Ext F H F2 H2 :=
  ⟨a.f.trans b.f, a.h.trans b.h, b.fh, fun l hl => by
    have h1 : H1 l ≠ none := fun e => hl (a.h.free e)
    rcases b.nf l h1 with q | ⟨vs, q⟩
    · rcases a.nf l hl with p | p
      · exact .inl (q.trans p)
      · exact .inr p
    · cases e : H l with
      | none => exact absurd e hl
      | some u =>
        have z := a.h _ _ e
        rw [q] at z; cases z
        exact .inr ⟨vs, rfl⟩⟩
theorem Ext.keep {F H F1 H1 : Hp} {l : Addr} {ho : HO} (a : Ext F H F1 H1) (h : H l = some ho) (t : ∀ vs, ho ≠ .tup vs) : F1 l = F l := by
  rcases a.nf l (by rw [h]; simp) with q | ⟨vs, q⟩
  · exact q
  · rw [h] at q; cases q; exact absurd rfl (t vs)
theorem same_upd {F H : Hp} {p : Addr} {o : HO} (s : Same F H) (hp : H p = none) : Same F (upd H p o) := fun b u e => by
  rw [upd_ne (ne_of_none (s b u e) hp)]; exact s b u e
theorem same_upd_self {H : Hp} {p : Addr} {o : HO} (hp : H p = none) : Same H (upd H p o) := same_upd (Same.refl H) hp
/-- a new object, frozen at once -/
theorem Ext.new {F H : Hp} {p : Addr} {o : HO} (s : Same F H) (hp : H p = none) : Ext F H (upd F p o) (upd H p o) :=
  ⟨same_upd_self (s.free hp), same_upd_self hp, fun b u e => by
    by_cases hb : b = p
    · subst hb; rw [upd_same] at e ⊢; exact e
    · rw [upd_ne hb] at e ⊢; exact s b u e,
   fun l hl => by
    have : l ≠ p := fun z => hl (by rw [z]; exact hp)
    rw [upd_ne this]; exact .inl rfl⟩
/-- a new object, not frozen -/
theorem Ext.newH {F H : Hp} {p : Addr} {o : HO} (s : Same F H) (hp : H p = none) : Ext F H F (upd H p o) :=
  ⟨Same.refl F, same_upd_self hp, same_upd s hp, fun _ _ => .inl rfl⟩
/-- an object that is there and not frozen gets frozen -/
theorem Ext.frz {B F0 F H : Hp} {p : Addr} {o : HO} (x : Ext F0 B F H) (h : H p = some o) (hf : F p = none) (hb : B p = none) : Ext F0 B (upd F p o) H :=
  ⟨x.f.trans (same_upd_self hf), x.h, fun b u e => by
    by_cases q : b = p
    · subst q; rw [upd_same] at e; rw [h]; exact e
    · rw [upd_ne q] at e; exact x.fh b u e,
   fun l hl => by
    have : l ≠ p := fun z => hl (by rw [z]; exact hb)
    rw [upd_ne this]; exact x.nf l hl⟩
/-- an own object changes -/
theorem Ext.wr {B F0 F H : Hp} {p : Addr} {o : HO} (x : Ext F0 B F H) (hf : F p = none) (hb : B p = none) : Ext F0 B F (upd H p o) :=
  ⟨x.f, fun b u e => by rw [upd_ne (ne_of_none e hb)]; exact x.h b u e, fun b u e => by rw [upd_ne (ne_of_none e hf)]; exact x.fh b u e, x.nf⟩

/-- a tuple that is there gets frozen -/
theorem Ext.frzT {B F0 F H : Hp} {p : Addr} {vs : List V} (x : Ext F0 B F H) (h : H p = some (.tup vs)) : Ext F0 B (upd F p (.tup vs)) H := by
  have sf : Same F (upd F p (.tup vs)) := fun b u e => by
    by_cases q : b = p
    · subst q; rw [upd_same]; rw [← h]; exact x.fh _ _ e
    · rw [upd_ne q]; exact e
  refine ⟨x.f.trans sf, x.h, fun b u e => ?_, fun l hl => ?_⟩
  · by_cases q : b = p
    · subst q; rw [upd_same] at e; rw [h]; exact e
    · rw [upd_ne q] at e; exact x.fh b u e
  · by_cases q : l = p
    · subst q
      cases e : B l with
      | none => exact absurd e hl
      | some u =>
        have z := x.h _ _ e
        rw [h] at z; cases z
        exact .inr ⟨vs, rfl⟩
    · rw [upd_ne q]; exact x.nf l hl

/-! ## own objects and slots -/
def OwnR (E : Am) (F : Hp) : D → HO → Prop
  | .lst ds, ho => ∃ vs, ho = .lst vs ∧ RepL E F ds vs
  | .ins C ns ds, ho => ∃ dx vs, ho = .ins (E.cl C) dx (ns.zip vs) ∧ ns.length = ds.length ∧ RepL E F ds vs
  | .dk ks ds, ho => ∃ vs, ho = .dK (ks.zip vs) ∧ ks.length = ds.length ∧ RepL E F ds vs
  | .dt ks ds, ho => ∃ vs, ho = .dT (ks.zip vs) ∧ ks.length = ds.length ∧ RepL E F ds vs
  | _, _ => False
theorem OwnR.mono {E : Am} {F F' : Hp} (e : Same F F') {d : D} {ho : HO} (h : OwnR E F d ho) : OwnR E F' d ho := by
  cases d with
  | lst ds => obtain ⟨vs, h1, h2⟩ := h; exact ⟨vs, h1, RepL.mono e _ _ h2⟩
  | ins C ns ds => obtain ⟨dx, vs, h1, h2, h3⟩ := h; exact ⟨dx, vs, h1, h2, RepL.mono e _ _ h3⟩
  | dk ks ds => obtain ⟨vs, h1, h2, h3⟩ := h; exact ⟨vs, h1, h2, RepL.mono e _ _ h3⟩
  | dt ks ds => obtain ⟨vs, h1, h2, h3⟩ := h; exact ⟨vs, h1, h2, RepL.mono e _ _ h3⟩
  | _ => exact h
theorem OwnR.rep {E : Am} {F : Hp} {d : D} {ho : HO} {l : Addr} (h : OwnR E F d ho) (e : F l = some ho) : Rep E F d (.ref l) := by
  cases d with
  | lst ds => obtain ⟨vs, h1, h2⟩ := h; subst h1; exact ⟨l, vs, rfl, e, h2⟩
  | ins C ns ds => obtain ⟨dx, vs, h1, h2, h3⟩ := h; subst h1; exact ⟨l, dx, vs, rfl, e, h2, h3⟩
  | dk ks ds => obtain ⟨vs, h1, h2, h3⟩ := h; subst h1; exact ⟨l, vs, rfl, e, h2, h3⟩
  | dt ks ds => obtain ⟨vs, h1, h2, h3⟩ := h; subst h1; exact ⟨l, vs, rfl, e, h2, h3⟩
  | _ => exact h.elim

theorem OwnR.nt {E : Am} {F : Hp} {d : D} {ho : HO} (h : OwnR E F d ho) : ∀ vs, ho ≠ .tup vs := by
  intro us
  cases d with
  | lst ds => obtain ⟨vs, h1, h2⟩ := h; subst h1; exact fun z => by cases z
  | ins C ns ds => obtain ⟨dx, vs, h1, h2, h3⟩ := h; subst h1; exact fun z => by cases z
  | dk ks ds => obtain ⟨vs, h1, h2, h3⟩ := h; subst h1; exact fun z => by cases z
  | dt ks ds => obtain ⟨vs, h1, h2, h3⟩ := h; subst h1; exact fun z => by cases z
  | _ => exact h.elim

/-- what a slot is known to hold -/
inductive EV where
  | unb | dat (d : D) | own (d : D) | pin (v : V)
abbrev Ev := List EV
structure StR (E : Am) (B F H : Hp) (σ : L2.St) (ρ : Ev) : Prop where
  len : σ.length = ρ.length
  dat : ∀ (i : Nat) (d : D), ρ[i]? = some (.dat d) → ∃ v, σ[i]? = some (some v) ∧ Rep E F d v
  own : ∀ (i : Nat) (d : D), ρ[i]? = some (.own d) → ∃ l ho, σ[i]? = some (some (.ref l)) ∧ H l = some ho ∧ F l = none ∧ B l = none ∧ OwnR E F d ho
  apart : ∀ (i j : Nat) (d d' : D) (l : Addr), i ≠ j → ρ[i]? = some (.own d) → ρ[j]? = some (.own d') → σ[i]? = some (some (.ref l)) → σ[j]? ≠ some (some (.ref l))
  pin : ∀ (i : Nat) (v : V), ρ[i]? = some (.pin v) → σ[i]? = some (some v)
theorem StR.mono {E : Am} {B F H F' H' : Hp} {σ : L2.St} {ρ : Ev} (s : StR E B F H σ ρ) (x : Ext F H F' H') : StR E B F' H' σ ρ :=
  ⟨s.len, fun i d e => let ⟨v, h1, h2⟩ := s.dat i d e; ⟨v, h1, Rep.mono x.f d v h2⟩,
   fun i d e => by
    obtain ⟨l, ho, h1, h2, h3, h4, h5⟩ := s.own i d e
    exact ⟨l, ho, h1, x.h _ _ h2, by rw [x.keep h2 h5.nt]; exact h3, h4, h5.mono x.f⟩,
   s.apart, s.pin⟩
/-- set a slot to a datum -/
theorem StR.setD {E : Am} {B F H : Hp} {σ : L2.St} {ρ : Ev} (s : StR E B F H σ ρ) {i : Nat} {d : D} {v : V} (h : Rep E F d v) : StR E B F H (σ.set i (some v)) (ρ.set i (.dat d)) := by
  refine ⟨by simp [s.len], fun j e hj => ?_, fun j e hj => ?_, fun j k e e' l hjk hj hk hl => ?_, fun j e hj => ?_⟩
  · by_cases q : i = j
    · subst q
      by_cases hi : i < ρ.length
      · rw [List.getElem?_set_self hi] at hj
        cases hj
        exact ⟨v, by rw [List.getElem?_set_self (by rw [s.len]; exact hi)], h⟩
      · rw [List.getElem?_eq_none (by simpa using hi)] at hj; cases hj
    · rw [List.getElem?_set_ne q] at hj ⊢
      exact s.dat j e hj
  · by_cases q : i = j
    · subst q
      by_cases hi : i < ρ.length
      · rw [List.getElem?_set_self hi] at hj; cases hj
      · rw [List.getElem?_eq_none (by simpa using hi)] at hj; cases hj
    · rw [List.getElem?_set_ne q] at hj ⊢
      exact s.own j e hj
  · have qj : i ≠ j := fun z => by
      subst z
      by_cases hi : i < ρ.length
      · rw [List.getElem?_set_self hi] at hj; cases hj
      · rw [List.getElem?_eq_none (by simpa using hi)] at hj; cases hj
    have qk : i ≠ k := fun z => by
      subst z
      by_cases hi : i < ρ.length
      · rw [List.getElem?_set_self hi] at hk; cases hk
      · rw [List.getElem?_eq_none (by simpa using hi)] at hk; cases hk
    rw [List.getElem?_set_ne qj] at hj hl
    rw [List.getElem?_set_ne qk] at hk ⊢
    exact s.apart j k e e' l hjk hj hk hl
  · by_cases q : i = j
    · subst q
      by_cases hi : i < ρ.length
      · rw [List.getElem?_set_self hi] at hj; cases hj
      · rw [List.getElem?_eq_none (by simpa using hi)] at hj; cases hj
    · rw [List.getElem?_set_ne q] at hj ⊢
      exact s.pin j e hj
/-- set a slot to a new own object -/
theorem StR.setO {E : Am} {B F H : Hp} {σ : L2.St} {ρ : Ev} (s : StR E B F H σ ρ) {i : Nat} {d : D} {l : Addr} {ho : HO} (hl : H l = some ho) (hf : F l = none) (hb : B l = none) (h : OwnR E F d ho)
    (new : ∀ j e, ρ[j]? = some (.own e) → j ≠ i → σ[j]? ≠ some (some (.ref l))) : StR E B F H (σ.set i (some (.ref l))) (ρ.set i (.own d)) := by
  have at_ : ∀ {j : Nat} {e : EV}, (ρ.set i (.own d))[j]? = some e → (j = i ∧ i < ρ.length ∧ e = .own d) ∨ (j ≠ i ∧ ρ[j]? = some e) := fun {j e} hj => by
    by_cases q : i = j
    · subst q
      by_cases hi : i < ρ.length
      · rw [List.getElem?_set_self hi] at hj; cases hj; exact .inl ⟨rfl, hi, rfl⟩
      · rw [List.getElem?_eq_none (by simpa using hi)] at hj; cases hj
    · rw [List.getElem?_set_ne q] at hj; exact .inr ⟨Ne.symm q, hj⟩
  refine ⟨by simp [s.len], fun j e hj => ?_, fun j e hj => ?_, fun j k e e' l' hjk hj hk hl' => ?_, fun j e hj => ?_⟩
  · rcases at_ hj with ⟨_, _, z⟩ | ⟨q, z⟩
    · cases z
    · rw [List.getElem?_set_ne (Ne.symm q)]; exact s.dat j e z
  · rcases at_ hj with ⟨q, hi, z⟩ | ⟨q, z⟩
    · subst q; cases z
      exact ⟨l, ho, by rw [List.getElem?_set_self (by rw [s.len]; exact hi)], hl, hf, hb, h⟩
    · rw [List.getElem?_set_ne (Ne.symm q)]; exact s.own j e z
  · rcases at_ hj with ⟨q, hi, z⟩ | ⟨q, z⟩
    · subst q
      rw [List.getElem?_set_self (by rw [s.len]; exact hi)] at hl'
      cases hl'
      rcases at_ hk with ⟨q2, _, _⟩ | ⟨q2, z2⟩
      · exact absurd q2.symm hjk
      · rw [List.getElem?_set_ne (Ne.symm q2)]
        exact new k e' z2 q2
    · rw [List.getElem?_set_ne (Ne.symm q)] at hl'
      rcases at_ hk with ⟨q2, hi, _⟩ | ⟨q2, z2⟩
      · subst q2
        rw [List.getElem?_set_self (by rw [s.len]; exact hi)]
        intro w
        cases w
        exact new j e z q hl'
      · rw [List.getElem?_set_ne (Ne.symm q2)]
        exact s.apart j k e e' l' hjk z z2 hl'
  · rcases at_ hj with ⟨_, _, z⟩ | ⟨q, z⟩
    · cases z
    · rw [List.getElem?_set_ne (Ne.symm q)]; exact s.pin j e z
/-- forget a slot -/
theorem StR.setU {E : Am} {B F H : Hp} {σ : L2.St} {ρ : Ev} (s : StR E B F H σ ρ) {i : Nat} {o : Option V} : StR E B F H (σ.set i o) (ρ.set i .unb) := by
  have at_ : ∀ {j : Nat} {e : EV}, e ≠ .unb → (ρ.set i .unb)[j]? = some e → j ≠ i ∧ ρ[j]? = some e := fun {j e} ne hj => by
    by_cases q : i = j
    · subst q
      by_cases hi : i < ρ.length
      · rw [List.getElem?_set_self hi] at hj; cases hj; exact absurd rfl ne
      · rw [List.getElem?_eq_none (by simpa using hi)] at hj; cases hj
    · rw [List.getElem?_set_ne q] at hj; exact ⟨Ne.symm q, hj⟩
  refine ⟨by simp [s.len], fun j e hj => ?_, fun j e hj => ?_, fun j k e e' l' hjk hj hk hl' => ?_, fun j e hj => ?_⟩
  · obtain ⟨q, z⟩ := at_ (by simp) hj
    rw [List.getElem?_set_ne (Ne.symm q)]; exact s.dat j e z
  · obtain ⟨q, z⟩ := at_ (by simp) hj
    rw [List.getElem?_set_ne (Ne.symm q)]; exact s.own j e z
  · obtain ⟨q, z⟩ := at_ (by simp) hj
    obtain ⟨q2, z2⟩ := at_ (by simp) hk
    rw [List.getElem?_set_ne (Ne.symm q)] at hl'
    rw [List.getElem?_set_ne (Ne.symm q2)]
    exact s.apart j k e e' l' hjk z z2 hl'
  · obtain ⟨q, z⟩ := at_ (by simp) hj
    rw [List.getElem?_set_ne (Ne.symm q)]; exact s.pin j e z
/-- an own object becomes a datum -/
theorem StR.freeze {E : Am} {B F H : Hp} {σ : L2.St} {ρ : Ev} (s : StR E B F H σ ρ) {i : Nat} {d : D} (hi : ρ[i]? = some (.own d)) :
    ∃ l ho, H l = some ho ∧ F l = none ∧ B l = none ∧ StR E B (upd F l ho) H σ (ρ.set i (.dat d)) := by
  obtain ⟨l, ho, h1, h2, h3, h4, h5⟩ := s.own i d hi
  have sf : Same F (upd F l ho) := same_upd_self h3
  have hlt : i < ρ.length := (List.getElem?_eq_some_iff.mp hi).1
  refine ⟨l, ho, h2, h3, h4, by simp [s.len], fun j e hj => ?_, fun j e hj => ?_, fun j k e e' l' hjk hj hk hl' => ?_, fun j e hj => ?_⟩
  · by_cases q : i = j
    · subst q
      rw [List.getElem?_set_self hlt] at hj; cases hj
      exact ⟨_, h1, (h5.mono sf).rep upd_same⟩
    · rw [List.getElem?_set_ne q] at hj
      obtain ⟨v, e1, e2⟩ := s.dat j e hj
      exact ⟨v, e1, Rep.mono sf _ _ e2⟩
  · by_cases q : i = j
    · subst q
      rw [List.getElem?_set_self hlt] at hj; cases hj
    · rw [List.getElem?_set_ne q] at hj
      obtain ⟨l', ho', g1, g2, g3, g4, g5⟩ := s.own j e hj
      have ne : l' ≠ l := fun z => by subst z; exact s.apart i j d e l' q hi hj h1 g1
      exact ⟨l', ho', g1, g2, by rw [upd_ne ne]; exact g3, g4, g5.mono sf⟩
  · have qj : i ≠ j := fun z => by
      subst z; rw [List.getElem?_set_self hlt] at hj; cases hj
    have qk : i ≠ k := fun z => by
      subst z; rw [List.getElem?_set_self hlt] at hk; cases hk
    rw [List.getElem?_set_ne qj] at hj
    rw [List.getElem?_set_ne qk] at hk
    exact s.apart j k e e' l' hjk hj hk hl'
  · by_cases q : i = j
    · subst q
      rw [List.getElem?_set_self hlt] at hj; cases hj
    · rw [List.getElem?_set_ne q] at hj
      exact s.pin j e hj
/-- an own object is written -/
theorem StR.write {E : Am} {B F H : Hp} {σ : L2.St} {ρ : Ev} (s : StR E B F H σ ρ) {i : Nat} {d d' : D} {l : Addr} {ho' : HO} (hi : ρ[i]? = some (.own d)) (hs : σ[i]? = some (some (.ref l))) (hf : F l = none) (hb : B l = none) (h : OwnR E F d' ho') :
    StR E B F (upd H l ho') σ (ρ.set i (.own d')) := by
  have hlt : i < ρ.length := (List.getElem?_eq_some_iff.mp hi).1
  refine ⟨by simp [s.len], fun j e hj => ?_, fun j e hj => ?_, fun j k e e' l' hjk hj hk hl' => ?_, fun j e hj => ?_⟩
  · by_cases q : i = j
    · subst q; rw [List.getElem?_set_self hlt] at hj; cases hj
    · rw [List.getElem?_set_ne q] at hj; exact s.dat j e hj
  · by_cases q : i = j
    · subst q
      rw [List.getElem?_set_self hlt] at hj; cases hj
      exact ⟨l, ho', hs, upd_same, hf, hb, h⟩
    · rw [List.getElem?_set_ne q] at hj
      obtain ⟨l', ho2, g1, g2, g3, g4, g5⟩ := s.own j e hj
      have ne : l' ≠ l := fun z => by subst z; exact s.apart i j d e l' q hi hj hs g1
      exact ⟨l', ho2, g1, by rw [upd_ne ne]; exact g2, g3, g4, g5⟩
  · have oj : ∃ e1, ρ[j]? = some (.own e1) := by
      by_cases q : i = j
      · subst q; exact ⟨d, hi⟩
      · rw [List.getElem?_set_ne q] at hj; exact ⟨e, hj⟩
    have ok : ∃ e1, ρ[k]? = some (.own e1) := by
      by_cases q : i = k
      · subst q; exact ⟨d, hi⟩
      · rw [List.getElem?_set_ne q] at hk; exact ⟨e', hk⟩
    obtain ⟨e1, o1⟩ := oj
    obtain ⟨e2, o2⟩ := ok
    exact s.apart j k e1 e2 l' hjk o1 o2 hl'
  · by_cases q : i = j
    · subst q; rw [List.getElem?_set_self hlt] at hj; cases hj
    · rw [List.getElem?_set_ne q] at hj; exact s.pin j e hj

/-! ## results -/
inductive Rs (α : Type) where
  | ok (a : α) | err (c : Str) (x : Option (Str × D)) | no
@[simp] def Rs.bind {α β : Type} : Rs α → (α → Rs β) → Rs β
  | .ok a, f => f a
  | .err c x, _ => .err c x
  | .no, _ => .no
/-- an exception that flies -/
def ErrP (E : Am) (F H : Hp) (c : Str) (x : Option (Str × D)) (cls : Value) (dd : Option Addr) : Prop :=
  cls = .ref (E.cl c) ∧ match x with
    | none => dd = none
    | some (f, d) => ∃ a v, dd = some a ∧ H a = some (.xd [(f, v)]) ∧ Rep E F d v
/-- strict and loose values -/
def RepO (E : Am) (F H : Hp) (d : D) (v : V) : Prop := Rep E F d v ∨ ∃ l ho, v = .ref l ∧ H l = some ho ∧ OwnR E F d ho
theorem RepO.mono {E : Am} {F H F' H' : Hp} {d : D} {v : V} (h : RepO E F H d v) (x : Ext F H F' H') : RepO E F' H' d v := by
  rcases h with h | ⟨l, ho, h1, h2, h3⟩
  · exact .inl (Rep.mono x.f _ _ h)
  · exact .inr ⟨l, ho, h1, x.h _ _ h2, h3.mono x.f⟩
/-- what is wanted behind an evaluation: G says what is known of the value -/
def Post {α β : Type} (E : Am) (W : WX) (σ : L2.St) (F H : Hp) (G : Hp → Hp → α → β → Prop) (Q : β → Hp → Prop) : Rs α → Prop
  | .ok a => ∀ F' H' b, Ext F H F' H' → G F' H' a b → Q b H'
  | .err c x => ∀ F' H' cls dd, Ext F H F' H' → ErrP E F' H' c x cls dd → W cls dd σ H'
  | .no => False
/-- the reading t evaluates as p says (G: what is known of the value; its first place is the heap at the start) -/
def Evals {α β : Type} (E : Am) (W : WX) (G : Hp → Hp → Hp → α → β → Prop) (t : L2.St → Hp → (β → Hp → Prop) → Prop) (p : Ev → Rs α) : Prop :=
  ∀ (B F H : Hp) (σ : L2.St) (ρ : Ev) (Q : β → Hp → Prop), Same F H → Same B H → StR E B F H σ ρ → Post E W σ F H (G H) Q (p ρ) → t σ H Q
abbrev GS (E : Am) : Hp → Hp → Hp → D → V → Prop := fun _ F _ d v => Rep E F d v
abbrev GL (E : Am) : Hp → Hp → Hp → D → V → Prop := fun _ F H d v => RepO E F H d v
/-- a new own object -/
def GN (E : Am) : Hp → Hp → Hp → D → V → Prop := fun H0 F H d v => ∃ l ho, v = .ref l ∧ H0 l = none ∧ F l = none ∧ H l = some ho ∧ OwnR E F d ho
abbrev GA (E : Am) : Hp → Hp → Hp → List D → List V → Prop := fun _ F _ ds vs => RepL E F ds vs
def RepOL (E : Am) (F H : Hp) : List D → List V → Prop
  | [], vs => vs = []
  | d :: ds, vs => ∃ v r, vs = v :: r ∧ RepO E F H d v ∧ RepOL E F H ds r
abbrev GAL (E : Am) : Hp → Hp → Hp → List D → List V → Prop := fun _ F H ds vs => RepOL E F H ds vs
abbrev GB : Hp → Hp → Hp → Bool → Bool → Prop := fun _ _ _ a b => a = b
theorem Post.imp {α β : Type} {E : Am} {W : WX} {σ : L2.St} {F H : Hp} {G G' : Hp → Hp → α → β → Prop} {Q : β → Hp → Prop} {r : Rs α} (h : Post E W σ F H G Q r) (g : ∀ F' H' a b, Ext F H F' H' → G' F' H' a b → G F' H' a b) : Post E W σ F H G' Q r := by
  cases r with
  | ok a => exact fun F' H' b x q => h F' H' b x (g F' H' a b x q)
  | err c x => exact h
  | no => exact h
/-- behind a first evaluation -/
theorem Post.after {α β : Type} {E : Am} {W : WX} {σ : L2.St} {F H F1 H1 : Hp} {G : Hp → Hp → α → β → Prop} {Q : β → Hp → Prop} {r : Rs α} (x : Ext F H F1 H1) (h : Post E W σ F H G Q r) : Post E W σ F1 H1 G Q r := by
  cases r with
  | ok a => exact fun F' H' b y q => h F' H' b (x.trans y) q
  | err c z => exact fun F' H' cls dd y q => h F' H' cls dd (x.trans y) q
  | no => exact h
/-- one evaluation, then another -/
theorem Evals.seq {α β γ δ : Type} {E : Am} {W : WX} {G : Hp → Hp → Hp → α → β → Prop} {G2 : Hp → Hp → γ → δ → Prop} {t : L2.St → Hp → (β → Hp → Prop) → Prop} {p : Ev → Rs α} {k : α → Rs γ}
    {B F H : Hp} {σ : L2.St} {ρ : Ev} {Q : δ → Hp → Prop} {K : β → Hp → Prop} (h : Evals E W G t p) (s : Same F H) (sb : Same B H) (r : StR E B F H σ ρ) (post : Post E W σ F H G2 Q ((p ρ).bind k))
    (step : ∀ F1 H1 a b, p ρ = .ok a → Ext F H F1 H1 → Same B H1 → StR E B F1 H1 σ ρ → G H F1 H1 a b → Post E W σ F1 H1 G2 Q (k a) → K b H1) : t σ H K := by
  refine h B F H σ ρ K s sb r ?_
  cases e : p ρ with
  | ok a =>
    rw [e] at post
    exact fun F1 H1 b x g => step F1 H1 a b e x (sb.trans x.h) (r.mono x) g (Post.after x post)
  | err c z => rw [e] at post; exact post
  | no => rw [e] at post; exact post

/-! ## judgements on the text -/
/-- an expression over a family of contexts: strict, loose -/
def XE {I : Type} (X : I → Cx) (E : Am) (W : WX) (e : Expr) (p : Ev → Rs D) : Prop := ∃ t, (∀ i, PE (X i) e t) ∧ Evals E W (GS E) t p
def XL {I : Type} (X : I → Cx) (E : Am) (W : WX) (e : Expr) (p : Ev → Rs D) : Prop := ∃ t, (∀ i, PE (X i) e t) ∧ Evals E W (GL E) t p
def XA {I : Type} (X : I → Cx) (E : Am) (W : WX) (es : List Expr) (p : Ev → Rs (List D)) : Prop := ∃ t, (∀ i, PA (X i) es t) ∧ Evals E W (GA E) t p
def XT {I : Type} (X : I → Cx) (E : Am) (W : WX) (e : Expr) (p : Ev → Rs Bool) : Prop := ∃ t, (∀ i, PT (X i) e t) ∧ Evals E W GB t p
def XW {I : Type} (X : I → Cx) (E : Am) (W : WX) (e : Expr) (p : Ev → Rs Bool) : Prop := ∃ t, (∀ i, PW (X i) e t) ∧ Evals E W GB t p
/-- a new own object -/
def XN {I : Type} (X : I → Cx) (E : Am) (W : WX) (e : Expr) (p : Ev → Rs D) : Prop := ∃ t, (∀ i, PE (X i) e t) ∧ Evals E W (GN E) t p
def XAL {I : Type} (X : I → Cx) (E : Am) (W : WX) (es : List Expr) (p : Ev → Rs (List D)) : Prop := ∃ t, (∀ i, PA (X i) es t) ∧ Evals E W (GAL E) t p
theorem Evals.frz {E : Am} {W : WX} {t : TE} {p : Ev → Rs D} (h : Evals E W (GN E) t p) : Evals E W (GS E) t p := by
  intro B F H σ ρ Q s sb r post
  refine h B F H σ ρ Q s sb r ?_
  cases e : p ρ with
  | no => rw [e] at post; exact post
  | err c z => rw [e] at post; exact post
  | ok d =>
    rw [e] at post
    rintro F' H' v x ⟨l, ho, rfl, h1, h2, h3, h4⟩
    have sf : Same F' (upd F' l ho) := same_upd_self h2
    exact post (upd F' l ho) H' _ ⟨x.f.trans sf, x.h, fun b u q => by
      by_cases z : b = l
      · subst z; rw [upd_same] at q; rw [h3]; exact q
      · rw [upd_ne z] at q; exact x.fh b u q, fun a ha => by
      have : a ≠ l := fun z => ha (by rw [z]; exact h1)
      rw [upd_ne this]; exact x.nf a ha⟩ ((h4.mono sf).rep upd_same)
theorem XN.xe {I : Type} {X : I → Cx} {E : Am} {W : WX} {e : Expr} {p : Ev → Rs D} (h : XN X E W e p) : XE X E W e p := by
  obtain ⟨t, h1, h2⟩ := h
  exact ⟨t, h1, h2.frz⟩
theorem RepOL.mono {E : Am} {F H F' H' : Hp} (x : Ext F H F' H') : ∀ {ds : List D} {vs : List V}, RepOL E F H ds vs → RepOL E F' H' ds vs
  | [], vs, h => h
  | d :: ds, vs, h => by
    obtain ⟨v, r, h1, h2, h3⟩ := h
    exact ⟨v, r, h1, h2.mono x, RepOL.mono x h3⟩
theorem XE.loose {I : Type} {X : I → Cx} {E : Am} {W : WX} {e : Expr} {p : Ev → Rs D} (h : XE X E W e p) : XL X E W e p := by
  obtain ⟨t, h1, h2⟩ := h
  exact ⟨t, h1, fun B F H σ ρ Q s sb r post => h2 B F H σ ρ Q s sb r (post.imp fun F' H' a b _ g => .inl g)⟩
/-- what holds of every context of a family: k calls of room -/
structure CtxB {I : Type} (X : I → Cx) (E : Am) (W : WX) (k : Nat) (cm : Bool) : Prop where
  K : ∀ i, (X i).K = E.K
  calm : cm = true → ∀ i, (X i).calm = true
  room : cm = true → ∀ i, Room k (X i).A
  tk : ∀ i, Takes (X i) W
  po : ∀ i, PassesOwn (model (X i).prog (X i).w) (X i).A (X i).env (X i).xe
  unt : ∀ i, (X i).A.units + 200 < cLine
abbrev Ctx {I : Type} (X : I → Cx) (E : Am) (W : WX) (k : Nat) : Prop := CtxB X E W k true
theorem CtxB.hu {I : Type} {X : I → Cx} {E : Am} {W : WX} {k : Nat} {cm : Bool} (c : CtxB X E W k cm) (i : I) : (X i).A.units + 200 < cLine := c.unt i
end DL
end

section
set_option linter.all false
set_option maxRecDepth 100000
set_option maxHeartbeats 4000000
namespace DL
open PySem PySem.Spec L2
variable {I : Type} {X : I → Cx} {Y : Cx} {E : Am} {W : WX}

/-! ## small evaluations -/
theorem ev_ok {α β : Type} {E : Am} {W : WX} {G : Hp → Hp → α → β → Prop} {F H : Hp} {σ : L2.St} {Q : β → Hp → Prop} {a : α} {b : β} (s : Same F H) (p : Post E W σ F H G Q (.ok a)) (g : G F H a b) : Q b H := p F H b (Ext.refl s) g
/-- the datum in a slot -/
def pV (i : Nat) : Ev → Rs D := fun ρ => match ρ[i]? with | some (.dat d) => .ok d | _ => .no
/-- the datum or own object in a slot, to be looked at -/
def pVo (i : Nat) : Ev → Rs D := fun ρ => match ρ[i]? with | some (.dat d) => .ok d | some (.own d) => .ok d | _ => .no
def pC (d : D) : Ev → Rs D := fun _ => .ok d
theorem xe_var {e : Expr} {i : Nat} (h : ∀ j, PE (X j) e (tVar i)) : XE X E W e (pV i) := by
  refine ⟨_, h, fun B F H σ ρ Q s sb r post => ?_⟩
  unfold pV at post
  split at post
  · rename_i d e
    obtain ⟨v, h1, h2⟩ := r.dat i d e
    exact ⟨v, h1, ev_ok s post h2⟩
  · exact post.elim
theorem xl_var {e : Expr} {i : Nat} (h : ∀ j, PE (X j) e (tVar i)) : XL X E W e (pVo i) := by
  refine ⟨_, h, fun B F H σ ρ Q s sb r post => ?_⟩
  unfold pVo at post
  split at post
  · rename_i d e
    obtain ⟨v, h1, h2⟩ := r.dat i d e
    exact ⟨v, h1, ev_ok s post (.inl h2)⟩
  · rename_i d e
    obtain ⟨l, ho, h1, h2, h3, h4, h5⟩ := r.own i d e
    exact ⟨_, h1, ev_ok s post (.inr ⟨l, ho, rfl, h2, h5⟩)⟩
  · exact post.elim
/-- a constant of the text or of the module -/
theorem xe_c {e : Expr} {v : V} {d : D} (h : ∀ j, PE (X j) e (tC v)) (hd : ∀ F, Rep E F d v) : XE X E W e (pC d) :=
  ⟨_, h, fun B F H σ ρ Q s sb r post => ev_ok s post (hd F)⟩
theorem xe_int {i : Int} {j : Nat} {pos : Pos} : XE X E W (.Constant (.int i) j pos) (pC (.int i)) := xe_c (fun _ => pe_int) fun _ => rfl
theorem xe_bl {b : Bool} {j : Nat} {pos : Pos} : XE X E W (.Constant (.bool b) j pos) (pC (.bl b)) := xe_c (fun _ => pe_bl) fun _ => rfl
theorem xe_non {j : Nat} {pos : Pos} : XE X E W (.Constant .none j pos) (pC .non) := xe_c (fun _ => pe_non) fun _ => rfl
theorem xe_str {x : Str} {j : Nat} {pos : Pos} : XE X E W (.Constant (.str x) j pos) (pC (.str x)) := xe_c (fun _ => pe_str) fun _ => rfl

/-! ## two-place operations -/
/-- r does f to data -/
def OpS (E : Am) (r : R2) (f : D → D → Rs D) : Prop :=
  ∀ (W : WX) (F H : Hp) (σ : L2.St) (dx dy : D) (x y : V) (Q : VK), Same F H → RepO E F H dx x → RepO E F H dy y → Post E W σ F H (GS E H) Q (f dx dy) → r x y H Q
def pBin (f : D → D → Rs D) (pa pb : Ev → Rs D) : Ev → Rs D := fun ρ => (pa ρ).bind fun x => (pb ρ).bind fun y => f x y
theorem evals_op {r : R2} {f : D → D → Rs D} {ta tb : TE} {pa pb : Ev → Rs D} (ho : OpS E r f) (ha : Evals E W (GL E) ta pa) (hb : Evals E W (GL E) tb pb) : Evals E W (GS E) (tOp r ta tb) (pBin f pa pb) := by
  intro B F H σ ρ Q s sb r0 post
  show ta σ H _
  refine Evals.seq ha s sb r0 post fun F1 H1 dx x e1 x1 sb1 r1 g1 post1 => ?_
  refine Evals.seq hb x1.fh sb1 r1 post1 fun F2 H2 dy y e2 x2 sb2 r2 g2 post2 => ?_
  exact ho W F2 H2 σ dx dy x y Q x2.fh (g1.mono x2) g2 post2
theorem xe_bin {op : Operator} {a b : Expr} {pos : Pos} {r : R2} {f : D → D → Rs D} {pa pb : Ev → Rs D} (h1 : ∀ i, OpR (X i) (binaryOp op) r) (h2 : OpS E r f) (ha : XL X E W a pa) (hb : XL X E W b pb) : XE X E W (.BinOp a op b pos) (pBin f pa pb) := by
  obtain ⟨ta, a1, a2⟩ := ha
  obtain ⟨tb, b1, b2⟩ := hb
  exact ⟨_, fun i => pe_op (h1 i) (a1 i) (b1 i), evals_op h2 a2 b2⟩
theorem xe_cmp {op : CmpOp} {a b : Expr} {pos : Pos} {r : R2} {f : D → D → Rs D} {pa pb : Ev → Rs D} (h1 : ∀ i, OpR (X i) (compareOp op) r) (h2 : OpS E r f) (ha : XL X E W a pa) (hb : XL X E W b pb) (hm : behindInMarks op b = false) : XE X E W (.Compare a [op] [b] pos) (pBin f pa pb) := by
  obtain ⟨ta, a1, a2⟩ := ha
  obtain ⟨tb, b1, b2⟩ := hb
  exact ⟨_, fun i => pe_cmpR (h1 i) (a1 i) (b1 i) hm, evals_op h2 a2 b2⟩
def toB : D → Rs Bool | .bl b => .ok b | _ => .no
theorem evals_test {t : TE} {p : Ev → Rs D} (h : Evals E W (GS E) t p) : Evals E W GB (tTest t) (fun ρ => (p ρ).bind toB) := by
  intro B F H σ ρ Q s sb r post
  show t σ H _
  refine Evals.seq h s sb r post fun F1 H1 d v e1 x1 sb1 r1 g1 post1 => ?_
  cases d <;> first | exact post1.elim | skip
  rename_i b
  exact ⟨b, g1, ev_ok x1.fh post1 rfl⟩
theorem xt_cmp {op : CmpOp} {a b : Expr} {pos : Pos} {r : R2} {f : D → D → Rs D} {pa pb : Ev → Rs D} (h1 : ∀ i, OpR (X i) (compareOp op) r) (h2 : OpS E r f) (ha : XL X E W a pa) (hb : XL X E W b pb) (hm : behindInMarks op b = false) : XT X E W (.Compare a [op] [b] pos) (fun ρ => (pBin f pa pb ρ).bind toB) := by
  obtain ⟨ta, a1, a2⟩ := ha
  obtain ⟨tb, b1, b2⟩ := hb
  exact ⟨_, fun i => pt_cmpR (h1 i) (a1 i) (b1 i) hm, evals_test (evals_op h2 a2 b2)⟩
/-- a chain a op b op' c -/
def pChain (f f' : D → D → Rs D) (pa pb pc : Ev → Rs D) : Ev → Rs D := fun ρ => (pa ρ).bind fun x => (pb ρ).bind fun y => (f x y).bind fun z => match z with | .bl true => (pc ρ).bind fun w => f' y w | .bl false => .ok (.bl false) | _ => .no
theorem evals_chain {r r' : R2} {f f' : D → D → Rs D} {ta tb tc : TE} {pa pb pc : Ev → Rs D} (ho : OpS E r f) (ho' : OpS E r' f') (ha : Evals E W (GL E) ta pa) (hb : Evals E W (GL E) tb pb) (hc : Evals E W (GL E) tc pc) : Evals E W (GS E) (tChain r r' ta tb tc) (pChain f f' pa pb pc) := by
  intro B F H σ ρ Q s sb r0 post
  show ta σ H _
  refine Evals.seq ha s sb r0 post fun F1 H1 dx x e1 x1 sb1 r1 g1 post1 => ?_
  refine Evals.seq hb x1.fh sb1 r1 post1 fun F2 H2 dy y e2 x2 sb2 r2 g2 post2 => ?_
  refine ho W F2 H2 σ dx dy x y _ x2.fh (g1.mono x2) g2 ?_
  cases e : f dx dy with
  | no => rw [e] at post2; exact post2
  | err c z => rw [e] at post2; exact post2
  | ok z =>
    rw [e] at post2
    intro F3 H3 v x3 g3
    cases z with
    | bl k =>
      obtain rfl : v = .bl k := g3
      refine ⟨k, rfl, ?_⟩
      cases k with
      | true =>
        rw [if_pos rfl]
        refine Evals.seq hc x3.fh (sb2.trans x3.h) (r2.mono x3) (Post.after x3 post2) fun F4 H4 dw w' e4 x4 sb4 r4 g4 post4 => ?_
        exact ho' W F4 H4 σ dy dw y w' Q x4.fh ((g2.mono x3).mono x4) g4 post4
      | false =>
        rw [if_neg Bool.false_ne_true]
        exact post2 F3 H3 _ x3 rfl
    | _ => exact post2.elim
theorem xe_chain {op op' : CmpOp} {a b c : Expr} {pos : Pos} {r r' : R2} {f f' : D → D → Rs D} {pa pb pc : Ev → Rs D} (h1 : ∀ i, OpR (X i) (compareOp op) r) (h2 : OpS E r f) (h3 : ∀ i, OpR (X i) (compareOp op') r') (h4 : OpS E r' f') (ha : XL X E W a pa) (hb : XL X E W b pb) (hc : XL X E W c pc)
    (hm : lastMarks [op, op'] [b, c] = false := by with_unfolding_all rfl) : XE X E W (.Compare a [op, op'] [b, c] pos) (pChain f f' pa pb pc) := by
  obtain ⟨ta, a1, a2⟩ := ha
  obtain ⟨tb, b1, b2⟩ := hb
  obtain ⟨tc, c1, c2⟩ := hc
  exact ⟨_, fun i => pe_chain (h1 i) (h3 i) (a1 i) (b1 i) (c1 i) hm, evals_chain h2 h4 a2 b2 c2⟩
theorem xt_chain {op op' : CmpOp} {a b c : Expr} {pos : Pos} {r r' : R2} {f f' : D → D → Rs D} {pa pb pc : Ev → Rs D} (h1 : ∀ i, OpR (X i) (compareOp op) r) (h2 : OpS E r f) (h3 : ∀ i, OpR (X i) (compareOp op') r') (h4 : OpS E r' f') (ha : XL X E W a pa) (hb : XL X E W b pb) (hc : XL X E W c pc)
    (hm : lastMarks [op, op'] [b, c] = false := by with_unfolding_all rfl) : XT X E W (.Compare a [op, op'] [b, c] pos) (fun ρ => (pChain f f' pa pb pc ρ).bind toB) := by
  obtain ⟨ta, a1, a2⟩ := ha
  obtain ⟨tb, b1, b2⟩ := hb
  obtain ⟨tc, c1, c2⟩ := hc
  exact ⟨_, fun i => pt_chain (h1 i) (h3 i) (a1 i) (b1 i) (c1 i) hm, evals_test (evals_chain h2 h4 a2 b2 c2)⟩

/-! ### ints -/
def fI (g : Int → Int → D) : D → D → Rs D | .int i, .int j => .ok (g i j) | _, _ => .no
def fIC (C : Int → Int → Bool) (g : Int → Int → D) : D → D → Rs D | .int i, .int j => if C i j then .ok (g i j) else .no | _, _ => .no
theorem repO_int {F H : Hp} {i : Int} {v : V} (h : RepO E F H (.int i) v) : v = .int i := by
  rcases h with h | ⟨_, _, _, _, h⟩
  · exact h
  · exact h.elim
theorem repO_bl {F H : Hp} {b : Bool} {v : V} (h : RepO E F H (.bl b) v) : v = .bl b := by
  rcases h with h | ⟨_, _, _, _, h⟩
  · exact h
  · exact h.elim
theorem repO_str {F H : Hp} {x : Str} {v : V} (h : RepO E F H (.str x) v) : v = .str x := by
  rcases h with h | ⟨_, _, _, _, h⟩
  · exact h
  · exact h.elim
theorem repO_non {F H : Hp} {v : V} (h : RepO E F H .non v) : v = .non := by
  rcases h with h | ⟨_, _, _, _, h⟩
  · exact h
  · exact h.elim
theorem repO_tup {F H : Hp} {ds : List D} {v : V} (h : RepO E F H (.tup ds) v) : Rep E F (.tup ds) v := by
  rcases h with h | ⟨_, _, _, _, h⟩
  · exact h
  · exact h.elim
theorem ops_I {g : Int → Int → V} {g' : Int → Int → D} (h : ∀ i j F, Rep E F (g' i j) (g i j)) : OpS E (rI0 g) (fI g') := by
  intro W F H σ dx dy x y Q s h1 h2 post
  cases dx <;> first | exact post.elim | skip
  cases dy <;> first | exact post.elim | skip
  exact ⟨_, _, repO_int h1, repO_int h2, ev_ok s post (h _ _ F)⟩
theorem ops_IC {C : Int → Int → Prop} {C' : Int → Int → Bool} {g : Int → Int → V} {g' : Int → Int → D} (hc : ∀ i j, C' i j = true → C i j) (h : ∀ i j F, Rep E F (g' i j) (g i j)) : OpS E (rI C g) (fIC C' g') := by
  intro W F H σ dx dy x y Q s h1 h2 post
  cases dx <;> first | exact post.elim | skip
  cases dy <;> first | exact post.elim | skip
  rename_i i j
  have post : Post E W σ F H (GS E H) Q (if C' i j = true then .ok (g' i j) else .no) := post
  by_cases c : C' i j = true
  · rw [if_pos c] at post
    exact ⟨_, _, repO_int h1, repO_int h2, hc _ _ c, ev_ok s post (h _ _ F)⟩
  · rw [if_neg c] at post; exact post.elim
def fSub := fI fun i j => .int (i - j)
def mulOk (i j : Int) : Bool := decide (i.natAbs < 2 ^ 64) || decide (j.natAbs < 2 ^ 64) || decide (i.natAbs.log2 + j.natAbs.log2 < 1000000)
def fMul := fIC mulOk fun i j => .int (i * j)
def divOk (_ j : Int) : Bool := decide (0 < j) && decide (j.natAbs.log2 < 9000)
def fDiv := fIC divOk fun i j => .int (i / j)
def fMod := fIC (fun _ j => decide (0 < j)) fun i j => .int (i % j)
def powOk (i j : Int) : Bool := decide (0 ≤ j) && decide (j ≤ 1000000) && decide (i.natAbs < 2 ^ 64)
def fPow := fIC powOk fun i j => .int (i ^ j.toNat)
def fLt := fI fun i j => .bl (decide (i < j))
def fLe := fI fun i j => .bl (decide (i ≤ j))
def fGt := fI fun i j => .bl (decide (j < i))
def fGe := fI fun i j => .bl (decide (j ≤ i))
theorem ops_sub : OpS E (rI0 fun i j => .int (i - j)) fSub := ops_I fun _ _ _ => rfl
theorem ops_lt : OpS E (rI0 fun i j => .bl (decide (i < j))) fLt := ops_I fun _ _ _ => rfl
theorem ops_le : OpS E (rI0 fun i j => .bl (decide (i ≤ j))) fLe := ops_I fun _ _ _ => rfl
theorem ops_gt : OpS E (rI0 fun i j => .bl (decide (j < i))) fGt := ops_I fun _ _ _ => rfl
theorem ops_ge : OpS E (rI0 fun i j => .bl (decide (j ≤ i))) fGe := ops_I fun _ _ _ => rfl
def CMulA (i j : Int) : Prop := CMul i j ∨ CMulW i j
theorem op_mulA : OpR Y (binaryOp .Mult) (rI CMulA fun i j => .int (i * j)) := opI fun _ _ _ _ _ _ _ hc q => PyProof.Rows.mul_int q (hc.elim CMul.ok CMulW.ok)
theorem ops_mul : OpS E (rI CMulA fun i j => .int (i * j)) fMul := ops_IC (fun i j h => by
  unfold mulOk at h
  rcases Bool.or_eq_true_iff.mp h with h | h
  · rcases Bool.or_eq_true_iff.mp h with h | h
    · have := of_decide_eq_true h
      exact .inl (.inl ⟨by omega, by omega⟩)
    · have := of_decide_eq_true h
      exact .inl (.inr ⟨by omega, by omega⟩)
  · exact .inr (show i.natAbs.log2 + j.natAbs.log2 < 1000000 from of_decide_eq_true h)) fun _ _ _ => rfl
theorem ops_div : OpS E (rI CDivW fun i j => .int (i / j)) fDiv := ops_IC (fun i j h => by
  obtain ⟨h1, h2⟩ := Bool.and_eq_true_iff.mp h
  exact ⟨of_decide_eq_true h1, of_decide_eq_true h2⟩) fun _ _ _ => rfl
theorem ops_mod : OpS E (rI (fun _ j => 0 < j) fun i j => .int (i % j)) fMod := ops_IC (fun i j h => of_decide_eq_true h) fun _ _ _ => rfl
theorem ops_pow : OpS E (rI CPow fun i j => .int (i ^ j.toNat)) fPow := ops_IC (fun i j h => by
  obtain ⟨h1, h2⟩ := Bool.and_eq_true_iff.mp h
  obtain ⟨h0, h1⟩ := Bool.and_eq_true_iff.mp h1
  exact ⟨of_decide_eq_true h0, of_decide_eq_true h1, of_decide_eq_true h2⟩) fun _ _ _ => rfl
end DL
end

section
set_option linter.all false
set_option maxRecDepth 100000
set_option maxHeartbeats 4000000
namespace DL
open PySem PySem.Spec L2
variable {I : Type} {X : I → Cx} {Y : Cx} {E : Am} {W : WX}

/-! ## data as the library's data -/
mutual
def toPy : D → PyData
  | .non => .none
  | .bl b => .bool b
  | .int i => .int i
  | .str x => .str x
  | .tup ds => .tuple (toPyL ds)
  | .lst ds => .list (toPyL ds)
  | .kl ds => .list (toPyL ds)
  | .ins _ _ _ => .dict []
  | .dk _ _ => .dict []
  | .dt _ _ => .dict []
def toPyL : List D → List PyData
  | [] => []
  | d :: ds => toPy d :: toPyL ds
end
theorem toPyL_map : ∀ ds : List D, toPyL ds = ds.map toPy
  | [] => rfl
  | d :: ds => by show toPy d :: toPyL ds = _; rw [toPyL_map ds]; rfl
mutual
theorem Rep.dp {F H : Hp} (s : Same F H) : ∀ (d : D) (v : V), (toPy d).canLay0 = true → Rep E F d v → Dp E.K H v (toPy d)
  | .non, v, _, h => by cases h; exact .non
  | .bl b, v, _, h => by cases h; exact .bl b
  | .int i, v, _, h => by cases h; exact .int i
  | .str x, v, _, h => by cases h; exact .str x
  | .tup ds, v, c, h => by
    obtain ⟨a, vs, rfl, h2, h3⟩ := h
    exact .tup (sqT_mono s h2) (RepL.dp s ds vs c h3)
  | .lst ds, v, c, h => by
    obtain ⟨a, vs, rfl, h2, h3⟩ := h
    exact .lst (SqL.of (s _ _ h2)) (RepL.dp s ds vs c h3)
  | .kl ds, v, c, h => by
    obtain ⟨a, vs, rfl, h2, h3⟩ := h
    exact .lst (sqL_mono s h2) (RepL.dp s ds vs c h3)
  | .ins _ _ _, v, c, h => by simp [toPy, PyData.canLay0] at c
  | .dk _ _, v, c, h => by simp [toPy, PyData.canLay0] at c
  | .dt _ _, v, c, h => by simp [toPy, PyData.canLay0] at c
theorem RepL.dp {F H : Hp} (s : Same F H) : ∀ (ds : List D) (vs : List V), PyData.canLayAll0 (toPyL ds) = true → RepL E F ds vs → DpAll E.K H vs (toPyL ds)
  | [], vs, _, h => by cases h; exact .nil
  | d :: ds, vs, c, h => by
    obtain ⟨v, r, rfl, h2, h3⟩ := h
    have c' : ((toPy d).canLay0 && PyData.canLayAll0 (toPyL ds)) = true := c
    obtain ⟨c1, c2⟩ := Bool.and_eq_true_iff.mp c'
    exact .cons (Rep.dp s d v c1 h2) (RepL.dp s ds r c2 h3)
end
theorem RepO.dp {F H : Hp} (s : Same F H) {d : D} {v : V} (c : (toPy d).canLay0 = true) (h : RepO E F H d v) : Dp E.K H v (toPy d) := by
  rcases h with h | ⟨l, ho, rfl, h1, h2⟩
  · exact Rep.dp s d v c h
  · cases d with
    | lst ds =>
      obtain ⟨vs, rfl, h3⟩ := h2
      exact .lst (SqL.of h1) (RepL.dp s ds vs c h3)
    | ins _ _ _ => simp [toPy, PyData.canLay0] at c
    | dk _ _ => simp [toPy, PyData.canLay0] at c
    | dt _ _ => simp [toPy, PyData.canLay0] at c
    | _ => exact h2.elim

/-! ## == and != -/
def shp (d : D) : Bool := SeqAt.shaped (toPy d)
def deq (a b : D) : Bool := PyData.eqv (toPy a) (toPy b)
def fEq : D → D → Rs D
  | .str x, .str y => .ok (.bl (decide (x = y)))
  | a, b => if shp a && shp b then .ok (.bl (deq a b)) else .no
def fNe : D → D → Rs D
  | .str x, .str y => .ok (.bl (!decide (x = y)))
  | a, b => if shp a && shp b then .ok (.bl (!deq a b)) else .no
def rEqA (K : PySem.W.Frag) : R2 := fun x y H Q => rEq x y H Q ∨ rEqD K x y H Q
def rNeA (K : PySem.W.Frag) : R2 := fun x y H Q => rNe x y H Q ∨ rNeD K x y H Q
theorem op_eqA (hu : Y.A.units + 64 < cLine) : OpR Y (compareOp .Eq) (rEqA Y.K) := op_eq.or (op_eqD hu)
theorem op_neA (hu : Y.A.units + 64 < cLine) : OpR Y (compareOp .NotEq) (rNeA Y.K) := op_ne.or (op_neD hu)
theorem ops_eq : OpS E (rEqA E.K) fEq := by
  intro W F H σ dx dy x y Q s h1 h2 post
  unfold fEq at post
  split at post
  · rename_i x' y'
    cases repO_str h1
    cases repO_str h2
    refine .inl ⟨rfl, ?_⟩
    have e : decide (V.str x' = V.str y') = decide (x' = y') := by
      by_cases q : x' = y'
      · subst q; simp
      · simp [q]
    rw [e]
    exact ev_ok s post rfl
  · by_cases c : (shp dx && shp dy) = true
    · rw [if_pos c] at post
      obtain ⟨c1, c2⟩ := Bool.and_eq_true_iff.mp c
      exact .inr ⟨_, _, h1.dp s (SeqAt.canLay_of_shaped c1), h2.dp s (SeqAt.canLay_of_shaped c2), c1, c2, ev_ok s post rfl⟩
    · rw [if_neg c] at post; exact post.elim
theorem ops_ne : OpS E (rNeA E.K) fNe := by
  intro W F H σ dx dy x y Q s h1 h2 post
  unfold fNe at post
  split at post
  · rename_i x' y'
    cases repO_str h1
    cases repO_str h2
    refine .inl ⟨rfl, ?_⟩
    have e : decide (V.str x' = V.str y') = decide (x' = y') := by
      by_cases q : x' = y'
      · subst q; simp
      · simp [q]
    rw [e]
    exact ev_ok s post rfl
  · by_cases c : (shp dx && shp dy) = true
    · rw [if_pos c] at post
      obtain ⟨c1, c2⟩ := Bool.and_eq_true_iff.mp c
      exact .inr ⟨_, _, h1.dp s (SeqAt.canLay_of_shaped c1), h2.dp s (SeqAt.canLay_of_shaped c2), c1, c2, ev_ok s post rfl⟩
    · rw [if_neg c] at post; exact post.elim

/-! ## + -/
theorem repO_lstH {F H : Hp} (s : Same F H) {ds : List D} {v : V} (h : RepO E F H (.lst ds) v) : ∃ a vs, v = .ref a ∧ H a = some (.lst vs) ∧ RepL E F ds vs := by
  rcases h with ⟨a, vs, h1, h2, h3⟩ | ⟨l, ho, h1, h2, vs, h3, h4⟩
  · exact ⟨a, vs, h1, s _ _ h2, h3⟩
  · exact ⟨l, vs, h1, by rw [h2, h3], h4⟩
/-- what a list, a tuple holds -/
def items : D → Option (List D)
  | .lst ds => some ds | .kl ds => some ds | .tup ds => some ds | _ => none
def isTup : D → Bool | .tup _ => true | _ => false
theorem repO_items {F H : Hp} (s : Same F H) {d : D} {ds : List D} {v : V} (e : items d = some ds) (h : RepO E F H d v) : ∃ a vs, v = .ref a ∧ (if isTup d then SqT E.K H a vs else SqL E.K H a vs) ∧ RepL E F ds vs := by
  cases d <;> simp only [items, Option.some.injEq] at e <;> first | contradiction | skip
  · subst e
    obtain ⟨a, vs, h1, h2, h3⟩ := repO_tup h
    exact ⟨a, vs, h1, by rw [if_pos (by rfl)]; exact sqT_mono s h2, h3⟩
  · subst e
    obtain ⟨a, vs, h1, h2, h3⟩ := repO_lstH s h
    exact ⟨a, vs, h1, by rw [if_neg (by simp [isTup])]; exact SqL.of h2, h3⟩
  · subst e
    rcases h with ⟨a, vs, h1, h2, h3⟩ | ⟨_, _, _, _, h⟩
    · exact ⟨a, vs, h1, by rw [if_neg (by simp [isTup])]; exact sqL_mono s h2, h3⟩
    · exact h.elim
theorem repO_seq {F H : Hp} (s : Same F H) {d : D} {ds : List D} {v : V} (e : items d = some ds) (h : RepO E F H d v) : ∃ a vs, v = .ref a ∧ (SqL E.K H a vs ∨ SqT E.K H a vs) ∧ RepL E F ds vs := by
  obtain ⟨a, vs, h1, h2, h3⟩ := repO_items s e h
  refine ⟨a, vs, h1, ?_, h3⟩
  split at h2
  · exact .inr h2
  · exact .inl h2
def fAdd : D → D → Rs D
  | .int i, .int j => .ok (.int (i + j))
  | .str x, .str y => if x.length + y.length ≤ sizeLine then .ok (.str (x ++ y)) else .no
  | .lst x, .lst y => if x.length + y.length ≤ sizeLine then .ok (.lst (x ++ y)) else .no
  | .tup x, .tup y => if !x.isEmpty && decide (x.length + y.length ≤ sizeLine) then .ok (.tup (x ++ y)) else .no
  | _, _ => .no
def rAddA (K : PySem.W.Frag) : R2 := fun x y H Q => rI0 (fun i j => .int (i + j)) x y H Q ∨ (∃ i j, x = .str i ∧ y = .str j ∧ i.length + j.length ≤ sizeLine ∧ Q (.str (i ++ j)) H) ∨ rCat x y H Q ∨ rCatT K x y H Q
theorem op_addA : OpR Y (binaryOp .Add) (rAddA Y.K) := op_add.or (op_add_str.or (op_cat.or op_catT))
theorem gs_newL {F H : Hp} {p : Addr} {ds : List D} {vs : List V} (s : Same F H) (hp : H p = none) (h : RepL E F ds vs) : Rep E (upd F p (.lst vs)) (.lst ds) (.ref p) := ⟨p, vs, rfl, upd_same, RepL.mono (same_upd_self (s.free hp)) _ _ h⟩
theorem gs_newT {F H : Hp} {p : Addr} {ds : List D} {vs : List V} (s : Same F H) (hp : H p = none) (h : RepL E F ds vs) : Rep E (upd F p (.tup vs)) (.tup ds) (.ref p) := ⟨p, vs, rfl, SqT.of upd_same, RepL.mono (same_upd_self (s.free hp)) _ _ h⟩
theorem ops_add : OpS E (rAddA E.K) fAdd := by
  intro W F H σ dx dy x y Q s h1 h2 post
  unfold fAdd at post
  split at post
  · exact .inl ⟨_, _, repO_int h1, repO_int h2, ev_ok s post rfl⟩
  · rename_i i j
    by_cases c : i.length + j.length ≤ sizeLine
    · rw [if_pos c] at post
      exact .inr (.inl ⟨_, _, repO_str h1, repO_str h2, c, ev_ok s post rfl⟩)
    · rw [if_neg c] at post; exact post.elim
  · rename_i i j
    by_cases c : i.length + j.length ≤ sizeLine
    · rw [if_pos c] at post
      obtain ⟨a, vs, e1, q1, r1⟩ := repO_lstH s h1
      obtain ⟨b, us, e2, q2, r2⟩ := repO_lstH s h2
      refine .inr (.inr (.inl ⟨a, b, vs, us, e1, e2, q1, q2, by rw [← r1.len, ← r2.len]; exact c, fun p hp => ?_⟩))
      exact post _ _ _ (Ext.new s hp) (gs_newL s hp (r1.append r2))
    · rw [if_neg c] at post; exact post.elim
  · rename_i i j
    by_cases c : (!i.isEmpty && decide (i.length + j.length ≤ sizeLine)) = true
    · rw [if_pos c] at post
      obtain ⟨c1, c2⟩ := Bool.and_eq_true_iff.mp c
      have c2 := of_decide_eq_true c2
      obtain ⟨a, vs, e1, q1, r1⟩ := repO_tup h1
      obtain ⟨b, us, e2, q2, r2⟩ := repO_tup h2
      refine .inr (.inr (.inr ⟨a, b, vs, us, e1, e2, sqT_mono s q1, sqT_mono s q2, ?_, by rw [← r1.len, ← r2.len]; exact c2, fun z => ?_, fun z p hp => ?_⟩))
      · intro z
        subst z
        have := r1.len
        cases i with
        | nil => simp at c1
        | cons _ _ => simp at this
      · subst z
        have : j = [] := by
          have := r2.len
          cases j with
          | nil => rfl
          | cons _ _ => simp at this
        subst this
        subst e1
        refine ev_ok s post ⟨a, vs, rfl, q1, ?_⟩
        rw [List.append_nil]; exact r1
      · exact post _ _ _ (Ext.new s hp) (gs_newT s hp (r1.append r2))
    · rw [if_neg c] at post; exact post.elim
  · exact post.elim

/-! ## is None -/
def isN : D → Bool | .non => true | _ => false
theorem rep_isN {F H : Hp} {d : D} {v : V} (h : RepO E F H d v) : decide (v = V.non) = isN d := by
  rcases h with h | ⟨l, ho, rfl, h1, h2⟩
  · cases d with
    | non => cases h; rfl
    | bl _ => cases h; rfl
    | int _ => cases h; rfl
    | str _ => cases h; rfl
    | tup _ => obtain ⟨a, vs, rfl, _⟩ := h; rfl
    | lst _ => obtain ⟨a, vs, rfl, _⟩ := h; rfl
    | kl _ => obtain ⟨a, vs, rfl, _⟩ := h; rfl
    | ins _ _ _ => obtain ⟨a, _, vs, rfl, _⟩ := h; rfl
    | dk _ _ => obtain ⟨a, vs, rfl, _⟩ := h; rfl
    | dt _ _ => obtain ⟨a, vs, rfl, _⟩ := h; rfl
  · cases d <;> first | exact h2.elim | rfl
def fIs : D → D → Rs D | d, .non => .ok (.bl (isN d)) | _, _ => .no
def fIsNot : D → D → Rs D | d, .non => .ok (.bl (!isN d)) | _, _ => .no
theorem ops_is : OpS E (fun x y H Q => y = .non ∧ Q (.bl (decide (x = .non))) H) fIs := by
  intro W F H σ dx dy x y Q s h1 h2 post
  cases dy <;> first | exact post.elim | skip
  refine ⟨repO_non h2, ?_⟩
  rw [rep_isN h1]
  exact ev_ok s post rfl
theorem ops_isNot : OpS E (fun x y H Q => y = .non ∧ Q (.bl (!decide (x = .non))) H) fIsNot := by
  intro W F H σ dx dy x y Q s h1 h2 post
  cases dy <;> first | exact post.elim | skip
  refine ⟨repO_non h2, ?_⟩
  rw [rep_isN h1]
  exact ev_ok s post rfl

/-! ## in -/
def flat : D → Bool | .non => true | .bl _ => true | .int _ => true | .str _ => true | _ => false
theorem flat_rep {F H : Hp} {d : D} {v : V} (f : flat d = true) (h : RepO E F H d v) : flatV v = true := by
  rcases h with h | ⟨_, _, _, _, h⟩
  · cases d <;> first | (cases f; done) | (cases h; rfl)
  · cases d <;> first | (cases f; done) | exact h.elim
theorem flat_eqV {F H F' H' : Hp} {d e : D} {v u : V} (fd : flat d = true) (fe : flat e = true) (h : RepO E F H d v) (h' : RepO E F' H' e u) : eqV v u = deq d e := by
  have h : Rep E F d v := by
    rcases h with h | ⟨_, _, _, _, h⟩
    · exact h
    · cases d <;> first | (cases fd; done) | exact h.elim
  have h' : Rep E F' e u := by
    rcases h' with h | ⟨_, _, _, _, h⟩
    · exact h
    · cases e <;> first | (cases fe; done) | exact h.elim
  cases d <;> (first | (cases fd; done) | skip) <;> cases e <;> (first | (cases fe; done) | skip) <;> cases h <;> cases h' <;> simp [eqV, deq, toPy, PyData.eqv]
theorem flats_rep {F : Hp} : ∀ {ds : List D} {vs : List V}, ds.all flat = true → RepL E F ds vs → vs.all flatV = true
  | [], vs, _, h => by cases h; rfl
  | d :: ds, vs, f, h => by
    obtain ⟨v, r, rfl, h1, h2⟩ := h
    rw [List.all_cons, Bool.and_eq_true] at f
    rw [List.all_cons, Bool.and_eq_true]
    exact ⟨flat_rep (H := F) f.1 (.inl h1), flats_rep f.2 h2⟩
theorem flats_in {F F' H' : Hp} {x : D} {u : V} (fx : flat x = true) (hx : RepO E F' H' x u) : ∀ {ds : List D} {vs : List V}, ds.all flat = true → RepL E F ds vs → inV u vs = ds.any fun y => deq y x
  | [], vs, _, h => by cases h; rfl
  | d :: ds, vs, f, h => by
    obtain ⟨v, r, rfl, h1, h2⟩ := h
    rw [List.all_cons, Bool.and_eq_true] at f
    show (eqV v u || inV u r) = (deq d x || ds.any fun y => deq y x)
    rw [flats_in fx hx f.2 h2, flat_eqV (H := F) f.1 fx (.inl h1) hx]
def strIn (x z : Str) : Bool := !(Builtin.Str.occurrences z x 0 z.length 1).isEmpty
def fIn (neg : Bool) : D → D → Rs D
  | .str x, .str z => .ok (.bl (neg ^^ strIn x z))
  | x, c => match items c with
    | some ds => if flat x && ds.all flat then .ok (.bl (neg ^^ ds.any fun y => deq y x)) else .no
    | none => .no
theorem xor_ite (neg b : Bool) : (if neg then !b else b) = (neg ^^ b) := by cases neg <;> simp
def rInA (K : PySem.W.Frag) : R2 := fun x y H Q => (∃ i j, x = .str i ∧ y = .str j ∧ Q (.bl (!(Builtin.Str.occurrences j i 0 j.length 1).isEmpty)) H) ∨ rIn K false x y H Q
def rNotInA (K : PySem.W.Frag) : R2 := fun x y H Q => (∃ i j, x = .str i ∧ y = .str j ∧ Q (.bl (!(!(Builtin.Str.occurrences j i 0 j.length 1).isEmpty))) H) ∨ rIn K true x y H Q
theorem op_inA : OpR Y (compareOp .In) (rInA Y.K) := op_in_str.or op_in_seq
theorem op_notInA : OpR Y (compareOp .NotIn) (rNotInA Y.K) := op_notIn_str.or op_notIn_seq
theorem ops_inG {neg : Bool} {r : R2} (hr : ∀ x y H Q, ((∃ i j, x = .str i ∧ y = .str j ∧ Q (.bl (neg ^^ strIn i j)) H) ∨ rIn E.K neg x y H Q) → r x y H Q) : OpS E r (fIn neg) := by
  intro W F H σ dx dy x y Q s h1 h2 post
  refine hr _ _ _ _ ?_
  unfold fIn at post
  split at post
  · exact .inl ⟨_, _, repO_str h1, repO_str h2, ev_ok s post rfl⟩
  · split at post
    · rename_i ds e
      by_cases c : (flat dx && ds.all flat) = true
      · rw [if_pos c] at post
        obtain ⟨c1, c2⟩ := Bool.and_eq_true_iff.mp c
        obtain ⟨a, vs, e1, q1, r1⟩ := repO_seq s e h2
        refine .inr ⟨a, vs, e1, q1, flat_rep c1 h1, flats_rep c2 r1, ?_⟩
        rw [xor_ite, flats_in c1 h1 c2 r1]
        exact ev_ok s post rfl
      · rw [if_neg c] at post; exact post.elim
    · exact post.elim
theorem ops_in : OpS E (rInA E.K) (fIn false) := ops_inG fun x y H Q h => by
  rcases h with ⟨i, j, h1, h2, h3⟩ | h
  · refine .inl ⟨i, j, h1, h2, ?_⟩
    simpa [strIn] using h3
  · exact .inr h
theorem ops_notIn : OpS E (rNotInA E.K) (fIn true) := ops_inG fun x y H Q h => by
  rcases h with ⟨i, j, h1, h2, h3⟩ | h
  · refine .inl ⟨i, j, h1, h2, ?_⟩
    simpa [strIn] using h3
  · exact .inr h
end DL
end

section
set_option linter.all false
set_option maxRecDepth 100000
set_option maxHeartbeats 4000000
namespace DL
open PySem PySem.Spec L2
variable {I : Type} {X : I → Cx} {Y : Cx} {E : Am} {W : WX}

/-! ## tests -/
def tru : D → Rs Bool
  | .non => .ok false | .bl b => .ok b | .int i => .ok (i != 0)
  | .str x => if x.length ≤ sizeLine then .ok ((x.length : Int) != 0) else .no
  | .tup ds => .ok (!ds.isEmpty) | .lst ds => .ok (!ds.isEmpty) | .kl ds => .ok (!ds.isEmpty)
  | .dk ks ds => .ok (!(ks.zip ds).isEmpty)
  | _ => .no
theorem isEmpty_len {α β : Type} {xs : List α} {ys : List β} (h : xs.length = ys.length) : xs.isEmpty = ys.isEmpty := by
  cases xs <;> cases ys <;> simp at h ⊢
theorem tru_rep {F H : Hp} (s : Same F H) {d : D} {v : V} {k : Bool} (e : tru d = .ok k) (h : RepO E F H d v) : TruV E.K v H k := by
  cases d with
  | non => cases repO_non h; cases e; rfl
  | bl b => cases repO_bl h; cases e; rfl
  | int i => cases repO_int h; cases e; rfl
  | str x =>
    cases repO_str h
    have e : (if x.length ≤ sizeLine then (Rs.ok ((x.length : Int) != 0) : Rs Bool) else .no) = .ok k := e
    by_cases c : x.length ≤ sizeLine
    · rw [if_pos c] at e; cases e; exact ⟨c, rfl⟩
    · rw [if_neg c] at e; cases e
  | tup ds =>
    cases e
    obtain ⟨a, vs, rfl, h2, h3⟩ := repO_tup h
    exact .inr (.inl ⟨vs, sqT_mono s h2, by rw [isEmpty_len h3.len]⟩)
  | lst ds =>
    cases e
    obtain ⟨a, vs, rfl, h2, h3⟩ := repO_lstH s h
    exact .inl ⟨vs, SqL.of h2, by rw [isEmpty_len h3.len]⟩
  | kl ds =>
    cases e
    obtain ⟨a, vs, rfl, h2, h3⟩ := repO_seq s (d := .kl ds) rfl h
    rcases h with ⟨a', vs', q1, q2, q3⟩ | ⟨_, _, _, _, q⟩
    · cases q1
      exact .inl ⟨vs', sqL_mono s q2, by rw [isEmpty_len q3.len]⟩
    · exact q.elim
  | dk ks ds =>
    cases e
    have key : ∃ a vs, v = .ref a ∧ H a = some (.dK (ks.zip vs)) ∧ RepL E F ds vs := by
      rcases h with ⟨a, vs, q1, q2, q3, q4⟩ | ⟨l, ho, q1, q2, vs, q3, q4, q5⟩
      · exact ⟨a, vs, q1, s _ _ q2, q4⟩
      · exact ⟨l, vs, q1, by rw [q2, q3], q5⟩
    obtain ⟨a, vs, rfl, h2, h3⟩ := key
    refine .inr (.inr ⟨_, h2, ?_⟩)
    rw [isEmpty_len (show (ks.zip ds).length = (ks.zip vs).length by rw [List.length_zip, List.length_zip, h3.len])]
  | ins _ _ _ => cases e
  | dt _ _ => cases e
theorem xt_val {a : Expr} {p : Ev → Rs D} (h : XL X E W a p) {k : Nat} {cm : Bool} (c : CtxB X E W k cm) (he : ∀ i whole, isTrue a (X i).env whole = (do let v ← whole; standAt a.pos; holding [v] (truthy v)) := by intro _ _; rfl) : XT X E W a (fun ρ => (p ρ).bind tru) := by
  obtain ⟨t, h1, h2⟩ := h
  refine ⟨fun σ H Q => t σ H fun x H' => ∃ k, TruV E.K x H' k ∧ Q k H', fun i => by rw [← c.K i]; exact pt_truth (h1 i) (he i), fun B F H σ ρ Q s sb r post => ?_⟩
  show t σ H _
  refine Evals.seq h2 s sb r post fun F1 H1 d v e1 x1 sb1 r1 g1 post1 => ?_
  cases e : tru d with
  | ok k => rw [e] at post1; exact ⟨k, tru_rep x1.fh e g1, ev_ok x1.fh post1 rfl⟩
  | err c z => cases d <;> simp [tru] at e <;> split at e <;> cases e
  | no => rw [e] at post1; exact post1.elim
def pNot (p : Ev → Rs Bool) : Ev → Rs Bool := fun ρ => (p ρ).bind fun b => .ok (!b)
def pAnd (p q : Ev → Rs Bool) : Ev → Rs Bool := fun ρ => (p ρ).bind fun b => if b = true then q ρ else .ok false
def pOr (p q : Ev → Rs Bool) : Ev → Rs Bool := fun ρ => (p ρ).bind fun b => if b = true then .ok true else q ρ
theorem xt_not {a : Expr} {pos : Pos} {p : Ev → Rs Bool} (h : XT X E W a p) : XT X E W (.UnaryOp .Not a pos) (pNot p) := by
  obtain ⟨t, h1, h2⟩ := h
  refine ⟨_, fun i => pt_not (h1 i), fun B F H σ ρ Q s sb r post => ?_⟩
  show t σ H _
  refine Evals.seq h2 s sb r post fun F1 H1 b b' e1 x1 sb1 r1 g1 post1 => ?_
  cases g1
  exact ev_ok x1.fh post1 rfl
theorem xw_pt {a : Expr} {p : Ev → Rs Bool} (h : XW X E W a p) : XT X E W a p := by
  obtain ⟨t, h1, h2⟩ := h
  exact ⟨t, fun i => (h1 i).pt, h2⟩
theorem xw_and1 {a : Expr} {pos : Pos} {p : Ev → Rs Bool} (h : XT X E W a p) : XW X E W (.BoolOp .And [a] pos) p := by
  obtain ⟨t, h1, h2⟩ := h
  exact ⟨t, fun i => pw_and1 (h1 i), h2⟩
theorem xw_or1 {a : Expr} {pos : Pos} {p : Ev → Rs Bool} (h : XT X E W a p) : XW X E W (.BoolOp .Or [a] pos) p := by
  obtain ⟨t, h1, h2⟩ := h
  exact ⟨t, fun i => pw_or1 (h1 i), h2⟩
theorem xw_and {a b : Expr} {rest : List Expr} {pos : Pos} {p q : Ev → Rs Bool} (h : XT X E W a p) (h' : XW X E W (.BoolOp .And (b :: rest) pos) q) : XW X E W (.BoolOp .And (a :: b :: rest) pos) (pAnd p q) := by
  obtain ⟨t, h1, h2⟩ := h
  obtain ⟨u, g1, g2⟩ := h'
  refine ⟨_, fun i => pw_and (h1 i) (g1 i), fun B F H σ ρ Q s sb r post => ?_⟩
  show t σ H _
  refine Evals.seq h2 s sb r post fun F1 H1 b b' e1 x1 sb1 r1 gg post1 => ?_
  cases gg
  cases b with
  | true => exact g2 B F1 H1 σ ρ Q x1.fh sb1 r1 (post1.imp fun _ _ _ _ _ g => g)
  | false => exact ev_ok x1.fh post1 rfl
theorem xw_or {a b : Expr} {rest : List Expr} {pos : Pos} {p q : Ev → Rs Bool} (h : XT X E W a p) (h' : XW X E W (.BoolOp .Or (b :: rest) pos) q) : XW X E W (.BoolOp .Or (a :: b :: rest) pos) (pOr p q) := by
  obtain ⟨t, h1, h2⟩ := h
  obtain ⟨u, g1, g2⟩ := h'
  refine ⟨_, fun i => pw_or (h1 i) (g1 i), fun B F H σ ρ Q s sb r post => ?_⟩
  show t σ H _
  refine Evals.seq h2 s sb r post fun F1 H1 b b' e1 x1 sb1 r1 gg post1 => ?_
  cases gg
  cases b with
  | true => exact ev_ok x1.fh post1 rfl
  | false => exact g2 B F1 H1 σ ρ Q x1.fh sb1 r1 (post1.imp fun _ _ _ _ _ g => g)
/-- and, or, not as values of bools -/
def pAndV (p q : Ev → Rs D) : Ev → Rs D := fun ρ => (p ρ).bind fun d => match d with | .bl true => q ρ | .bl false => .ok (.bl false) | _ => .no
def pOrV (p q : Ev → Rs D) : Ev → Rs D := fun ρ => (p ρ).bind fun d => match d with | .bl true => .ok (.bl true) | .bl false => q ρ | _ => .no
def pNotV (p : Ev → Rs D) : Ev → Rs D := fun ρ => (p ρ).bind fun d => match d with | .bl b => .ok (.bl (!b)) | _ => .no
theorem xe_one {op : BoolOp} {a : Expr} {pos : Pos} {p : Ev → Rs D} (h : XE X E W a p) : XE X E W (.BoolOp op [a] pos) p := by
  obtain ⟨t, h1, h2⟩ := h
  exact ⟨t, fun i => pe_one (h1 i), h2⟩
theorem xe_and {a b : Expr} {rest : List Expr} {pos : Pos} {p q : Ev → Rs D} (h : XE X E W a p) (h' : XE X E W (.BoolOp .And (b :: rest) pos) q) : XE X E W (.BoolOp .And (a :: b :: rest) pos) (pAndV p q) := by
  obtain ⟨t, h1, h2⟩ := h
  obtain ⟨u, g1, g2⟩ := h'
  refine ⟨_, fun i => pe_and (h1 i) (g1 i), fun B F H σ ρ Q s sb r post => ?_⟩
  show t σ H _
  refine Evals.seq h2 s sb r post fun F1 H1 d v e1 x1 sb1 r1 gg post1 => ?_
  cases d <;> first | exact post1.elim | skip
  rename_i b
  obtain rfl : v = .bl b := gg
  refine ⟨b, rfl, ?_⟩
  cases b with
  | true => exact g2 B F1 H1 σ ρ Q x1.fh sb1 r1 post1
  | false => exact ev_ok x1.fh post1 rfl
theorem xe_or {a b : Expr} {rest : List Expr} {pos : Pos} {p q : Ev → Rs D} (h : XE X E W a p) (h' : XE X E W (.BoolOp .Or (b :: rest) pos) q) : XE X E W (.BoolOp .Or (a :: b :: rest) pos) (pOrV p q) := by
  obtain ⟨t, h1, h2⟩ := h
  obtain ⟨u, g1, g2⟩ := h'
  refine ⟨_, fun i => pe_or (h1 i) (g1 i), fun B F H σ ρ Q s sb r post => ?_⟩
  show t σ H _
  refine Evals.seq h2 s sb r post fun F1 H1 d v e1 x1 sb1 r1 gg post1 => ?_
  cases d <;> first | exact post1.elim | skip
  rename_i b
  obtain rfl : v = .bl b := gg
  refine ⟨b, rfl, ?_⟩
  cases b with
  | true => exact ev_ok x1.fh post1 rfl
  | false => exact g2 B F1 H1 σ ρ Q x1.fh sb1 r1 post1
theorem xe_not {a : Expr} {pos : Pos} {p : Ev → Rs D} (h : XE X E W a p) : XE X E W (.UnaryOp .Not a pos) (pNotV p) := by
  obtain ⟨t, h1, h2⟩ := h
  refine ⟨_, fun i => pe_not (h1 i), fun B F H σ ρ Q s sb r post => ?_⟩
  show t σ H _
  refine Evals.seq h2 s sb r post fun F1 H1 d v e1 x1 sb1 r1 gg post1 => ?_
  cases d <;> first | exact post1.elim | skip
  rename_i b
  obtain rfl : v = .bl b := gg
  exact ⟨b, rfl, ev_ok x1.fh post1 rfl⟩
def pIf {α : Type} (c : Ev → Rs Bool) (p q : Ev → Rs α) : Ev → Rs α := fun ρ => (c ρ).bind fun b => if b = true then p ρ else q ρ
theorem evals_if {G : Hp → Hp → Hp → D → V → Prop} (hG : ∀ {F H F1 H1 F' H' d v}, Ext F H F1 H1 → G H1 F' H' d v → G H F' H' d v) {tc : TT} {ta tb : TE} {c : Ev → Rs Bool} {p q : Ev → Rs D} (hc : Evals E W GB tc c) (ha : Evals E W G ta p) (hb : Evals E W G tb q) : Evals E W G (tIf tc ta tb) (pIf c p q) := by
  intro B F H σ ρ Q s sb r post
  show tc σ H _
  refine Evals.seq hc s sb r post fun F1 H1 b b' e1 x1 sb1 r1 gg post1 => ?_
  cases gg
  cases b with
  | true => exact ha B F1 H1 σ ρ Q x1.fh sb1 r1 (Post.imp post1 fun _ _ _ _ _ g => hG x1 g)
  | false => exact hb B F1 H1 σ ρ Q x1.fh sb1 r1 (Post.imp post1 fun _ _ _ _ _ g => hG x1 g)
theorem xe_if {c a b : Expr} {pos : Pos} {pc : Ev → Rs Bool} {p q : Ev → Rs D} (hc : XT X E W c pc) (ha : XE X E W a p) (hb : XE X E W b q) : XE X E W (.IfExp c a b pos) (pIf pc p q) := by
  obtain ⟨tc, c1, c2⟩ := hc
  obtain ⟨ta, a1, a2⟩ := ha
  obtain ⟨tb, b1, b2⟩ := hb
  exact ⟨_, fun i => pe_ifExp (c1 i) (a1 i) (b1 i), evals_if (fun _ g => g) c2 a2 b2⟩

/-! ## unary minus -/
def fNeg : D → Rs D | .int i => .ok (.int (-i)) | _ => .no
def pUn (f : D → Rs D) (p : Ev → Rs D) : Ev → Rs D := fun ρ => (p ρ).bind f
theorem xe_neg {a : Expr} {pos : Pos} {p : Ev → Rs D} (h : XL X E W a p) : XE X E W (.UnaryOp .USub a pos) (pUn fNeg p) := by
  obtain ⟨t, h1, h2⟩ := h
  refine ⟨_, fun i => pe_un un_neg (h1 i), fun B F H σ ρ Q s sb r post => ?_⟩
  show t σ H _
  refine Evals.seq h2 s sb r post fun F1 H1 d v e1 x1 sb1 r1 gg post1 => ?_
  cases d <;> first | exact post1.elim | skip
  exact ⟨_, repO_int gg, ev_ok x1.fh post1 rfl⟩

/-! ## argument lists -/
def pNil : Ev → Rs (List D) := fun _ => .ok []
def pCons (p : Ev → Rs D) (q : Ev → Rs (List D)) : Ev → Rs (List D) := fun ρ => (p ρ).bind fun d => (q ρ).bind fun ds => .ok (d :: ds)
theorem xa_nil : XA X E W [] pNil := ⟨_, fun _ => pa_nil, fun B F H σ ρ Q s sb r post => ev_ok s post rfl⟩
theorem xal_nil : XAL X E W [] pNil := ⟨_, fun _ => pa_nil, fun B F H σ ρ Q s sb r post => ev_ok s post rfl⟩
theorem xa_cons {e : Expr} {es : List Expr} {p : Ev → Rs D} {q : Ev → Rs (List D)} (h : XE X E W e p) (h' : XA X E W es q) (hs : ∀ i, starEach (e :: es) (X i).env = (false, eval e (X i).env) :: starEach es (X i).env := by intro _; rfl) : XA X E W (e :: es) (pCons p q) := by
  obtain ⟨t, h1, h2⟩ := h
  obtain ⟨u, g1, g2⟩ := h'
  refine ⟨_, fun i => pa_cons (h1 i) (g1 i) (hs i), fun B F H σ ρ Q s sb r post => ?_⟩
  show t σ H _
  refine Evals.seq h2 s sb r post fun F1 H1 d v e1 x1 sb1 r1 gg post1 => ?_
  show u σ H1 _
  refine Evals.seq g2 x1.fh sb1 r1 post1 fun F2 H2 ds vs e2 x2 sb2 r2 g2 post2 => ?_
  exact ev_ok x2.fh post2 (.cons (Rep.mono x2.f _ _ gg) g2)
theorem xal_cons {e : Expr} {es : List Expr} {p : Ev → Rs D} {q : Ev → Rs (List D)} (h : XL X E W e p) (h' : XAL X E W es q) (hs : ∀ i, starEach (e :: es) (X i).env = (false, eval e (X i).env) :: starEach es (X i).env := by intro _; rfl) : XAL X E W (e :: es) (pCons p q) := by
  obtain ⟨t, h1, h2⟩ := h
  obtain ⟨u, g1, g2⟩ := h'
  refine ⟨_, fun i => pa_cons (h1 i) (g1 i) (hs i), fun B F H σ ρ Q s sb r post => ?_⟩
  show t σ H _
  refine Evals.seq h2 s sb r post fun F1 H1 d v e1 x1 sb1 r1 gg post1 => ?_
  show u σ H1 _
  refine Evals.seq g2 x1.fh sb1 r1 post1 fun F2 H2 ds vs e2 x2 sb2 r2 g2 post2 => ?_
  exact ev_ok x2.fh post2 ⟨_, _, rfl, gg.mono x2, g2⟩
/-! ## displays -/
def pTup (q : Ev → Rs (List D)) : Ev → Rs D := fun ρ => (q ρ).bind fun ds => if ds.length ≤ sizeLine then .ok (.tup ds) else .no
def pLst (q : Ev → Rs (List D)) : Ev → Rs D := fun ρ => (q ρ).bind fun ds => if ds.length ≤ sizeLine then .ok (.lst ds) else .no
theorem xe_tup {es : List Expr} {k : Nat} {pos : Pos} {q : Ev → Rs (List D)} (h : XA X E W es q) : XE X E W (.Tuple es k pos) (pTup q) := by
  obtain ⟨t, h1, h2⟩ := h
  refine ⟨_, fun i => pe_tup (h1 i), fun B F H σ ρ Q s sb r post => ?_⟩
  show t σ H _
  refine Evals.seq h2 s sb r post fun F1 H1 ds vs e1 x1 sb1 r1 gg post1 => ?_
  by_cases c : ds.length ≤ sizeLine
  · rw [if_pos c] at post1
    exact ⟨by rw [← gg.len]; exact c, fun p hp => post1 _ _ _ (Ext.new x1.fh hp) (gs_newT x1.fh hp gg)⟩
  · rw [if_neg c] at post1; exact post1.elim
theorem gn_newL {H0 F H : Hp} {p : Addr} {ds : List D} {vs : List V} (s : Same F H) (h0 : Same H0 H) (hp : H p = none) (h : RepL E F ds vs) : GN E H0 F (upd H p (.lst vs)) (.lst ds) (.ref p) :=
  ⟨p, _, rfl, h0.free hp, s.free hp, upd_same, vs, rfl, h⟩
theorem xn_lst {es : List Expr} {pos : Pos} {q : Ev → Rs (List D)} (h : XA X E W es q) : XN X E W (.List es pos) (pLst q) := by
  obtain ⟨t, h1, h2⟩ := h
  refine ⟨_, fun i => pe_lst (h1 i), fun B F H σ ρ Q s sb r post => ?_⟩
  show t σ H _
  have post' := post
  refine Evals.seq (G2 := fun F' H' a b => GN E H F' H' a b) h2 s sb r post fun F1 H1 ds vs e1 x1 sb1 r1 gg post1 => ?_
  by_cases c : ds.length ≤ sizeLine
  · rw [if_pos c] at post1
    exact ⟨by rw [← gg.len]; exact c, fun p hp => post1 _ _ _ (Ext.newH x1.fh hp) (gn_newL x1.fh x1.h hp gg)⟩
  · rw [if_neg c] at post1; exact post1.elim

/-! ## built-ins by their names -/
/-- r does f to loose data; N: what it hands out -/
def CalS (E : Am) (G : Hp → Hp → Hp → D → V → Prop) (r : List V → Hp → VK → Prop) (f : List D → Rs D) : Prop :=
  ∀ (W : WX) (F H : Hp) (σ : L2.St) (ds : List D) (vs : List V) (Q : VK), Same F H → RepOL E F H ds vs → Post E W σ F H (G H) Q (f ds) → r vs H Q
def pCall (f : List D → Rs D) (q : Ev → Rs (List D)) : Ev → Rs D := fun ρ => (q ρ).bind f
theorem evals_cb {G : Hp → Hp → Hp → D → V → Prop} (hG : ∀ {F H F1 H1 F' H' d v}, Ext F H F1 H1 → G H1 F' H' d v → G H F' H' d v) {r : List V → Hp → VK → Prop} {f : List D → Rs D} {t : TA} {q : Ev → Rs (List D)} (hr : CalS E G r f) (h : Evals E W (GAL E) t q) : Evals E W G (tCB r t) (pCall f q) := by
  intro B F H σ ρ Q s sb r0 post
  show t σ H _
  refine Evals.seq h s sb r0 post fun F1 H1 ds vs e1 x1 sb1 r1 gg post1 => ?_
  exact hr W F1 H1 σ ds vs Q x1.fh gg (Post.imp post1 fun _ _ _ _ _ g => hG x1 g)
theorem gn_back {F H F1 H1 F' H' : Hp} {d : D} {v : V} (x : Ext F H F1 H1) (g : GN E H1 F' H' d v) : GN E H F' H' d v := by
  obtain ⟨l, ho, h1, h2, h3, h4, h5⟩ := g
  exact ⟨l, ho, h1, x.h.free h2, h3, h4, h5⟩
theorem xe_callB {x : Str} {id : String} {p pos : Pos} {e : Expr} {es : List Expr} {r : List V → Hp → VK → Prop} {f : List D → Rs D} {q : Ev → Rs (List D)} (hc : ∀ i, CallR (X i) (.builtin id) r) (hr : CalS E (GS E) r f) (hg : ∀ i, Gl (X i) x) (hm : ∀ i, (X i).mg x = none) (hv : bootBuiltins x = some (.builtin id)) (ha : XAL X E W (e :: es) q)
    (hn : x ≠ "__name__" := by decide) (hdb : (x == ("__debug__" : Str)) = false := by decide) (he : ∀ i, starEach (e :: es) (X i).env = (false, eval e (X i).env) :: starEach es (X i).env := by intro _; rfl) (hpl : ∀ i, (backTo pos (starEach es (X i).env)).any (·.1) = false := by intro _; rfl) : XE X E W (.Call (.Name x p) (e :: es) [] pos) (pCall f q) := by
  obtain ⟨t, a1, a2⟩ := ha
  exact ⟨_, fun i => pe_callB (hc i) (hg i) (hm i) hv (a1 i) hn hdb (he i) (hpl i), evals_cb (fun _ g => g) hr a2⟩
theorem xn_callB {x : Str} {id : String} {p pos : Pos} {e : Expr} {es : List Expr} {r : List V → Hp → VK → Prop} {f : List D → Rs D} {q : Ev → Rs (List D)} (hc : ∀ i, CallR (X i) (.builtin id) r) (hr : CalS E (GN E) r f) (hg : ∀ i, Gl (X i) x) (hm : ∀ i, (X i).mg x = none) (hv : bootBuiltins x = some (.builtin id)) (ha : XAL X E W (e :: es) q)
    (hn : x ≠ "__name__" := by decide) (hdb : (x == ("__debug__" : Str)) = false := by decide) (he : ∀ i, starEach (e :: es) (X i).env = (false, eval e (X i).env) :: starEach es (X i).env := by intro _; rfl) (hpl : ∀ i, (backTo pos (starEach es (X i).env)).any (·.1) = false := by intro _; rfl) : XN X E W (.Call (.Name x p) (e :: es) [] pos) (pCall f q) := by
  obtain ⟨t, a1, a2⟩ := ha
  exact ⟨_, fun i => pe_callB (hc i) (hg i) (hm i) hv (a1 i) hn hdb (he i) (hpl i), evals_cb (G := GN E) (fun x g => gn_back x g) hr a2⟩
theorem xe_callTy {x : Str} {T : String} {p pos : Pos} {e : Expr} {es : List Expr} {r : List V → Hp → VK → Prop} {f : List D → Rs D} {q : Ev → Rs (List D)} (hc : ∀ i, CallR (X i) (.type T) r) (hr : CalS E (GS E) r f) (hg : ∀ i, Gl (X i) x) (hm : ∀ i, (X i).mg x = none) (hv : bootBuiltins x = some (.type T)) (ha : XAL X E W (e :: es) q)
    (hn : x ≠ "__name__" := by decide) (hdb : (x == ("__debug__" : Str)) = false := by decide) (he : ∀ i, starEach (e :: es) (X i).env = (false, eval e (X i).env) :: starEach es (X i).env := by intro _; rfl) (hpl : ∀ i, (backTo pos (starEach es (X i).env)).any (·.1) = false := by intro _; rfl) : XE X E W (.Call (.Name x p) (e :: es) [] pos) (pCall f q) := by
  obtain ⟨t, a1, a2⟩ := ha
  exact ⟨_, fun i => pe_callTy (hc i) (hg i) (hm i) hv (a1 i) hn hdb (he i) (hpl i), evals_cb (fun _ g => g) hr a2⟩
theorem xn_callTy {x : Str} {T : String} {p pos : Pos} {e : Expr} {es : List Expr} {r : List V → Hp → VK → Prop} {f : List D → Rs D} {q : Ev → Rs (List D)} (hc : ∀ i, CallR (X i) (.type T) r) (hr : CalS E (GN E) r f) (hg : ∀ i, Gl (X i) x) (hm : ∀ i, (X i).mg x = none) (hv : bootBuiltins x = some (.type T)) (ha : XAL X E W (e :: es) q)
    (hn : x ≠ "__name__" := by decide) (hdb : (x == ("__debug__" : Str)) = false := by decide) (he : ∀ i, starEach (e :: es) (X i).env = (false, eval e (X i).env) :: starEach es (X i).env := by intro _; rfl) (hpl : ∀ i, (backTo pos (starEach es (X i).env)).any (·.1) = false := by intro _; rfl) : XN X E W (.Call (.Name x p) (e :: es) [] pos) (pCall f q) := by
  obtain ⟨t, a1, a2⟩ := ha
  exact ⟨_, fun i => pe_callTy (hc i) (hg i) (hm i) hv (a1 i) hn hdb (he i) (hpl i), evals_cb (G := GN E) (fun x g => gn_back x g) hr a2⟩
theorem xe_callBfun {x : Str} {id : String} {p pos : Pos} {e : Expr} {es : List Expr} {r : List V → Hp → VK → Prop} {f : List D → Rs D} {q : Ev → Rs (List D)} (hc : ∀ i, CallR (X i) (.builtin id) r) (hr : CalS E (GS E) r f) (hg : ∀ i, Gl (X i) x) (hm : ∀ i, (X i).mg x = some (.builtin id)) (ha : XAL X E W (e :: es) q)
    (hdb : (x == ("__debug__" : Str)) = false := by decide) (he : ∀ i, starEach (e :: es) (X i).env = (false, eval e (X i).env) :: starEach es (X i).env := by intro _; rfl) (hpl : ∀ i, (backTo pos (starEach es (X i).env)).any (·.1) = false := by intro _; rfl) : XE X E W (.Call (.Name x p) (e :: es) [] pos) (pCall f q) := by
  obtain ⟨t, a1, a2⟩ := ha
  exact ⟨_, fun i => pe_callBfun (hc i) (hg i) (hm i) (a1 i) hdb (he i) (hpl i), evals_cb (fun _ g => g) hr a2⟩
theorem rol1 {F H : Hp} {d : D} {vs : List V} (h : RepOL E F H [d] vs) : ∃ v, vs = [v] ∧ RepO E F H d v := by
  obtain ⟨v, r, rfl, h1, h2⟩ := h
  cases h2
  exact ⟨v, rfl, h1⟩
theorem rol2 {F H : Hp} {d e : D} {vs : List V} (h : RepOL E F H [d, e] vs) : ∃ v u, vs = [v, u] ∧ RepO E F H d v ∧ RepO E F H e u := by
  obtain ⟨v, r, rfl, h1, h2⟩ := h
  obtain ⟨u, rfl, h3⟩ := rol1 h2
  exact ⟨v, u, rfl, h1, h3⟩
def fLen : List D → Rs D
  | [.str x] => if x.length ≤ sizeLine then .ok (.int x.length) else .no
  | [d] => match items d with | some ds => .ok (.int ds.length) | none => .no
  | _ => .no
theorem call_lenA : CallR Y (.builtin "len") (fun xs H Q => (∃ z, xs = [.str z] ∧ z.length ≤ sizeLine ∧ Q (.int z.length) H) ∨ (∃ p ys, xs = [.ref p] ∧ (SqL Y.K H p ys ∨ SqT Y.K H p ys) ∧ Q (.int ys.length) H)) := call_len_str.or call_len_seq
theorem cals_len : CalS E (GS E) (fun xs H Q => (∃ z, xs = [.str z] ∧ z.length ≤ sizeLine ∧ Q (.int z.length) H) ∨ (∃ p ys, xs = [.ref p] ∧ (SqL E.K H p ys ∨ SqT E.K H p ys) ∧ Q (.int ys.length) H)) fLen := by
  intro W F H σ ds vs Q s h post
  unfold fLen at post
  split at post
  · rename_i x
    obtain ⟨v, rfl, h1⟩ := rol1 h
    by_cases c : x.length ≤ sizeLine
    · rw [if_pos c] at post
      cases repO_str h1
      exact .inl ⟨x, rfl, c, ev_ok s post rfl⟩
    · rw [if_neg c] at post; exact post.elim
  · split at post
    · rename_i es e
      obtain ⟨v, rfl, h1⟩ := rol1 h
      obtain ⟨a, vs, rfl, q1, q2⟩ := repO_seq s e h1
      refine .inr ⟨a, vs, rfl, q1, ?_⟩
      refine ev_ok s post ?_
      rw [q2.len]; rfl
    · exact post.elim
  · exact post.elim
def fAbs : List D → Rs D | [.int i] => .ok (.int (if i < 0 then -i else i)) | _ => .no
theorem cals_abs : CalS E (GS E) (fun xs H Q => ∃ i, xs = [.int i] ∧ Q (.int (if i < 0 then -i else i)) H) fAbs := by
  intro W F H σ ds vs Q s h post
  unfold fAbs at post
  split at post
  · obtain ⟨v, rfl, h1⟩ := rol1 h
    cases repO_int h1
    exact ⟨_, rfl, ev_ok s post rfl⟩
  · exact post.elim
def fInt : List D → Rs D | [.int i] => .ok (.int i) | [.bl k] => .ok (.int (if k then 1 else 0)) | _ => .no
theorem cals_int : CalS E (GS E) (fun xs H Q => (∃ i, xs = [.int i] ∧ Q (.int i) H) ∨ ∃ k, xs = [.bl k] ∧ Q (.int (if k then 1 else 0)) H) fInt := by
  intro W F H σ ds vs Q s h post
  unfold fInt at post
  split at post
  · obtain ⟨v, rfl, h1⟩ := rol1 h
    cases repO_int h1
    exact .inl ⟨_, rfl, ev_ok s post rfl⟩
  · obtain ⟨v, rfl, h1⟩ := rol1 h
    cases repO_bl h1
    exact .inr ⟨_, rfl, ev_ok s post rfl⟩
  · exact post.elim
def fMax2 : List D → Rs D | [.int i, .int j] => .ok (.int (if j > i then j else i)) | _ => .no
def fMin2 : List D → Rs D | [.int i, .int j] => .ok (.int (if j < i then j else i)) | _ => .no
theorem cals_max2 : CalS E (GS E) (fun xs H Q => ∃ i j, xs = [.int i, .int j] ∧ Q (.int (if j > i then j else i)) H) fMax2 := by
  intro W F H σ ds vs Q s h post
  unfold fMax2 at post
  split at post
  · obtain ⟨v, u, rfl, h1, h2⟩ := rol2 h
    cases repO_int h1
    cases repO_int h2
    exact ⟨_, _, rfl, ev_ok s post rfl⟩
  · exact post.elim
theorem cals_min2 : CalS E (GS E) (fun xs H Q => ∃ i j, xs = [.int i, .int j] ∧ Q (.int (if j < i then j else i)) H) fMin2 := by
  intro W F H σ ds vs Q s h post
  unfold fMin2 at post
  split at post
  · obtain ⟨v, u, rfl, h1, h2⟩ := rol2 h
    cases repO_int h1
    cases repO_int h2
    exact ⟨_, _, rfl, ev_ok s post rfl⟩
  · exact post.elim
def fGcd : List D → Rs D | [.int i, .int j] => .ok (.int ((Nat.gcd i.natAbs j.natAbs : Nat) : Int)) | _ => .no
theorem cals_gcd : CalS E (GS E) rGcd fGcd := by
  intro W F H σ ds vs Q s h post
  unfold fGcd at post
  split at post
  · obtain ⟨v, u, rfl, h1, h2⟩ := rol2 h
    cases repO_int h1
    cases repO_int h2
    exact ⟨_, _, rfl, ev_ok s post rfl⟩
  · exact post.elim
/-! sums, all, any -/
def intsOf : List D → Option (List Int)
  | [] => some []
  | .int i :: r => (intsOf r).map (i :: ·)
  | _ => none
def blsOf : List D → Option (List Bool)
  | [] => some []
  | .bl i :: r => (blsOf r).map (i :: ·)
  | _ => none
theorem repL_ints {F : Hp} : ∀ {ds : List D} {ns : List Int} {vs : List V}, intsOf ds = some ns → RepL E F ds vs → vs = ns.map V.int
  | [], ns, vs, e, h => by cases e; cases h; rfl
  | d :: ds, ns, vs, e, h => by
    cases d <;> simp only [intsOf] at e <;> first | contradiction | skip
    rename_i i
    obtain ⟨ms, e1, e2⟩ := Option.map_eq_some_iff.mp e
    obtain ⟨v, r, rfl, h1, h2⟩ := h
    cases h1
    subst e2
    rw [repL_ints e1 h2]; rfl
theorem repL_bls {F : Hp} : ∀ {ds : List D} {ns : List Bool} {vs : List V}, blsOf ds = some ns → RepL E F ds vs → vs = ns.map V.bl
  | [], ns, vs, e, h => by cases e; cases h; rfl
  | d :: ds, ns, vs, e, h => by
    cases d <;> simp only [blsOf] at e <;> first | contradiction | skip
    rename_i i
    obtain ⟨ms, e1, e2⟩ := Option.map_eq_some_iff.mp e
    obtain ⟨v, r, rfl, h1, h2⟩ := h
    cases h1
    subst e2
    rw [repL_bls e1 h2]; rfl
def itemsL : D → Option (List D) | .lst ds => some ds | .kl ds => some ds | _ => none
theorem itemsL_items {d : D} {ds : List D} (e : itemsL d = some ds) : items d = some ds ∧ isTup d = false := by
  cases d <;> simp [itemsL] at e <;> subst e <;> exact ⟨rfl, rfl⟩
theorem repO_list {F H : Hp} (s : Same F H) {d : D} {ds : List D} {v : V} (e : itemsL d = some ds) (h : RepO E F H d v) : ∃ a vs, v = .ref a ∧ SqL E.K H a vs ∧ RepL E F ds vs := by
  obtain ⟨e1, e2⟩ := itemsL_items e
  obtain ⟨a, vs, h1, h2, h3⟩ := repO_items s e1 h
  rw [e2] at h2
  exact ⟨a, vs, h1, h2, h3⟩
def fSum : List D → Rs D
  | [d] => (match itemsL d with | some ds => (match intsOf ds with | some ns => .ok (.int ns.sum) | none => .no) | none => .no)
  | _ => .no
def fAny : List D → Rs D
  | [d] => (match itemsL d with | some ds => (match blsOf ds with | some ns => .ok (.bl (ns.any id)) | none => .no) | none => .no)
  | _ => .no
def fAll : List D → Rs D
  | [d] => (match itemsL d with | some ds => (match blsOf ds with | some ns => .ok (.bl (ns.all id)) | none => .no) | none => .no)
  | _ => .no
theorem cals_sum : CalS E (GS E) (rSum E.K) fSum := by
  intro W F H σ ds vs Q s h post
  unfold fSum at post
  split at post
  · split at post
    · split at post
      · rename_i es e _ ns en
        obtain ⟨v, rfl, h1⟩ := rol1 h
        obtain ⟨a, us, rfl, q1, q2⟩ := repO_list s e h1
        rw [repL_ints en q2] at q1
        exact ⟨a, ns, rfl, q1, ev_ok s post rfl⟩
      · exact post.elim
    · exact post.elim
  · exact post.elim
theorem cals_any : CalS E (GS E) (rAny E.K) fAny := by
  intro W F H σ ds vs Q s h post
  unfold fAny at post
  split at post
  · split at post
    · split at post
      · rename_i es e _ ns en
        obtain ⟨v, rfl, h1⟩ := rol1 h
        obtain ⟨a, us, rfl, q1, q2⟩ := repO_list s e h1
        rw [repL_bls en q2] at q1
        exact ⟨a, ns, rfl, q1, ev_ok s post rfl⟩
      · exact post.elim
    · exact post.elim
  · exact post.elim
theorem cals_all : CalS E (GS E) (rAll E.K) fAll := by
  intro W F H σ ds vs Q s h post
  unfold fAll at post
  split at post
  · split at post
    · split at post
      · rename_i es e _ ns en
        obtain ⟨v, rfl, h1⟩ := rol1 h
        obtain ⟨a, us, rfl, q1, q2⟩ := repO_list s e h1
        rw [repL_bls en q2] at q1
        exact ⟨a, ns, rfl, q1, ev_ok s post rfl⟩
      · exact post.elim
    · exact post.elim
  · exact post.elim
/-! list(..), tuple(..) -/
def fList : List D → Rs D
  | [d] => (match items d with | some ds => .ok (.lst ds) | none => .no)
  | _ => .no
theorem cals_list : CalS E (GN E) (fun xs H Q => ∃ p ys, xs = [.ref p] ∧ (SqL E.K H p ys ∨ SqT E.K H p ys) ∧ ∀ l, H l = none → Q (.ref l) (upd H l (.lst ys))) fList := by
  intro W F H σ ds vs Q s h post
  unfold fList at post
  split at post
  · split at post
    · rename_i es e
      obtain ⟨v, rfl, h1⟩ := rol1 h
      obtain ⟨a, us, rfl, q1, q2⟩ := repO_seq s e h1
      exact ⟨a, us, rfl, q1, fun l hl => post _ _ _ (Ext.newH s hl) (gn_newL s (Same.refl H) hl q2)⟩
    · exact post.elim
  · exact post.elim
def fTuple : List D → Rs D
  | [d] => (match items d with | some ds => .ok (.tup ds) | none => .no)
  | _ => .no
theorem cals_tuple : CalS E (GS E) (fun xs H Q => ∃ p ys, xs = [.ref p] ∧ ((SqL E.K H p ys ∧ ∀ l, H l = none → Q (.ref l) (upd H l (.tup ys))) ∨ (SqT E.K H p ys ∧ Q (.ref p) H))) fTuple := by
  intro W F H σ ds vs Q s h post
  unfold fTuple at post
  split at post
  · rename_i d
    split at post
    · rename_i es e
      obtain ⟨v, rfl, h1⟩ := rol1 h
      by_cases t : isTup d = true
      · cases d <;> simp [isTup] at t
        cases e
        obtain ⟨a, us, rfl, q1, q2⟩ := repO_tup h1
        exact ⟨a, us, rfl, .inr ⟨sqT_mono s q1, ev_ok s post ⟨a, us, rfl, q1, q2⟩⟩⟩
      · obtain ⟨a, us, rfl, q1, q2⟩ := repO_items s e h1
        rw [if_neg t] at q1
        exact ⟨a, us, rfl, .inl ⟨q1, fun l hl => post _ _ _ (Ext.new s hl) (gs_newT s hl q2)⟩⟩
    · exact post.elim
  · exact post.elim
end DL
end

section
set_option linter.all false
set_option maxRecDepth 100000
set_option maxHeartbeats 4000000
namespace DL
open PySem PySem.Spec L2
variable {I : Type} {X : I → Cx} {Y : Cx} {E : Am} {W : WX}

/-! ## subscripts -/
def fIx : D → D → Rs D
  | .str z, .int i => if z.length ≤ sizeLine then (match atI z.cps.toList i with | some c => .ok (.str ⟨#[c]⟩) | none => .no) else .no
  | d, .int i => (match items d with | some ds => (match atI ds i with | some x => .ok x | none => .no) | none => .no)
  | _, _ => .no
theorem repL_at {F : Hp} {ds : List D} {vs : List V} {i : Int} {d : D} (h : RepL E F ds vs) (e : atI ds i = some d) : ∃ v, atI vs i = some v ∧ Rep E F d v := by
  unfold atI at e ⊢
  rw [← h.len]
  cases q : ixN ds.length i with
  | none => rw [q] at e; cases e
  | some j =>
    rw [q] at e
    exact h.get e
theorem ops_ix : OpS E (rIx E.K) fIx := by
  intro W F H σ dx dy x y Q s h1 h2 post
  unfold fIx at post
  split at post
  · rename_i z i
    by_cases c : z.length ≤ sizeLine
    · rw [if_pos c] at post
      split at post
      · rename_i ch e
        exact .inr (.inr ⟨z, i, ch, repO_str h1, repO_int h2, c, e, ev_ok s post rfl⟩)
      · exact post.elim
    · rw [if_neg c] at post; exact post.elim
  · rename_i i _
    split at post
    · rename_i ds e
      split at post
      · rename_i d ed
        obtain ⟨a, vs, rfl, q1, q2⟩ := repO_items s e h1
        obtain ⟨v, e1, e2⟩ := repL_at q2 ed
        by_cases t : isTup dx = true
        · rw [if_pos t] at q1
          exact .inr (.inl ⟨a, vs, i, v, rfl, repO_int h2, q1, e1, ev_ok s post e2⟩)
        · rw [if_neg t] at q1
          exact .inl ⟨a, vs, i, v, rfl, repO_int h2, q1, e1, ev_ok s post e2⟩
      · exact post.elim
    · exact post.elim
  · exact post.elim
theorem xe_ix {a b : Expr} {pos : Pos} {pa pb : Ev → Rs D} {k : Nat} {cm : Bool} (c : CtxB X E W k cm) (ha : XL X E W a pa) (hb : XL X E W b pb) (hs : PlainIx b := by exact fun _ _ => rfl) : XE X E W (.Subscript a b pos) (pBin fIx pa pb) := by
  obtain ⟨ta, a1, a2⟩ := ha
  obtain ⟨tb, b1, b2⟩ := hb
  exact ⟨tOp (rIx E.K) ta tb, fun i => by rw [← c.K i]; exact pe_ix ix_seq (a1 i) (b1 i) hs, evals_op ops_ix a2 b2⟩
/-! slices -/
def XO {I : Type} (X : I → Cx) (E : Am) (W : WX) (e : Option Expr) (p : Ev → Rs (Option Int)) : Prop := ∃ t, (∀ i, PO (X i) e t) ∧ Evals E W (fun _ _ _ a b => a = b) t p
def pNo : Ev → Rs (Option Int) := fun _ => .ok none
def pPart (p : Ev → Rs D) : Ev → Rs (Option Int) := fun ρ => (p ρ).bind fun d => match d with | .int i => .ok (some i) | _ => .no
theorem xo_none : XO X E W none pNo := ⟨_, fun _ => po_none, fun B F H σ ρ Q s sb r post => ev_ok s post rfl⟩
theorem xo_some {e : Expr} {p : Ev → Rs D} (h : XL X E W e p) : XO X E W (some e) (pPart p) := by
  obtain ⟨t, h1, h2⟩ := h
  refine ⟨_, fun i => po_some (h1 i), fun B F H σ ρ Q s sb r post => ?_⟩
  show t σ H _
  refine Evals.seq h2 s sb r post fun F1 H1 d v e1 x1 sb1 r1 gg post1 => ?_
  cases d <;> first | exact post1.elim | skip
  exact ⟨_, repO_int gg, ev_ok x1.fh post1 rfl⟩
def cutD {α : Type} (xs : List α) (lo hi : Option Int) : List α := (xs.drop (HT.sIx xs.length 0 lo)).take (HT.sIx xs.length xs.length hi - HT.sIx xs.length 0 lo)
theorem repL_cut {F : Hp} {ds : List D} {vs : List V} (h : RepL E F ds vs) (lo hi : Option Int) : RepL E F (cutD ds lo hi) (cutV vs lo hi) := by
  unfold cutD cutV
  rw [h.len]
  exact (h.drop _).take _
def fSlL (d : D) (lo hi : Option Int) : Rs D := match itemsL d with | some ds => .ok (.lst (cutD ds lo hi)) | none => .no
def fSlS (d : D) (lo hi : Option Int) : Rs D := match d with
  | .str z => if z.length ≤ sizeLine then .ok (.str (cutS z lo hi)) else .no
  | .tup ds => if HT.sIx ds.length 0 lo = 0 ∧ HT.sIx ds.length ds.length hi = ds.length then .no else .ok (.tup (cutD ds lo hi))
  | _ => .no
def pSl (f : D → Option Int → Option Int → Rs D) (p : Ev → Rs D) (l h : Ev → Rs (Option Int)) : Ev → Rs D := fun ρ => (p ρ).bind fun d => (l ρ).bind fun lo => (h ρ).bind fun hi => f d lo hi
theorem xn_sl {e : Expr} {lo hi : Option Expr} {pos p2 : Pos} {p : Ev → Rs D} {l h : Ev → Rs (Option Int)} {k : Nat} {cm : Bool} (c : CtxB X E W k cm) (he : XL X E W e p) (hl : XO X E W lo l) (hh : XO X E W hi h) : XN X E W (.Subscript e (.Slice lo hi none p2) pos) (pSl fSlL p l h) := by
  obtain ⟨t, h1, h2⟩ := he
  obtain ⟨tl, l1, l2⟩ := hl
  obtain ⟨th, u1, u2⟩ := hh
  refine ⟨tSl (rSlL E.K) t tl th, fun i => by rw [← c.K i]; exact pe_slice sl_list (h1 i) (l1 i) (u1 i), ?_⟩
  intro B F H σ ρ Q s sb r post
  show t σ H _
  refine Evals.seq (G2 := fun F' H' a b => GN E H F' H' a b) h2 s sb r post fun F1 H1 d v e1 x1 sb1 r1 gg post1 => ?_
  show tl σ H1 _
  refine Evals.seq (G2 := fun F' H' a b => GN E H F' H' a b) l2 x1.fh sb1 r1 post1 fun F2 H2 o o' e2 x2 sb2 r2 g2 post2 => ?_
  cases g2
  show th σ H2 _
  refine Evals.seq (G2 := fun F' H' a b => GN E H F' H' a b) u2 x2.fh sb2 r2 post2 fun F3 H3 o2 o2' e3 x3 sb3 r3 g3 post3 => ?_
  cases g3
  unfold fSlL at post3
  split at post3
  · rename_i ds ed
    obtain ⟨a, vs, rfl, q1, q2⟩ := repO_list x3.fh ed ((gg.mono x2).mono x3)
    exact ⟨a, vs, rfl, q1, fun p hp => post3 _ _ _ (Ext.newH x3.fh hp) (gn_newL x3.fh ((x1.trans x2).trans x3).h hp (repL_cut q2 _ _))⟩
  · exact post3.elim
def rSlA (K : PySem.W.Frag) : V → Option Int → Option Int → Hp → VK → Prop := fun x lo hi H Q => rSlS x lo hi H Q ∨ rSlT K x lo hi H Q
theorem xe_sl {e : Expr} {lo hi : Option Expr} {pos p2 : Pos} {p : Ev → Rs D} {l h : Ev → Rs (Option Int)} {k : Nat} {cm : Bool} (c : CtxB X E W k cm) (he : XL X E W e p) (hl : XO X E W lo l) (hh : XO X E W hi h) : XE X E W (.Subscript e (.Slice lo hi none p2) pos) (pSl fSlS p l h) := by
  obtain ⟨t, h1, h2⟩ := he
  obtain ⟨tl, l1, l2⟩ := hl
  obtain ⟨th, u1, u2⟩ := hh
  refine ⟨tSl (rSlA E.K) t tl th, fun i => by rw [← c.K i]; exact pe_slice (sl_str.or sl_tup) (h1 i) (l1 i) (u1 i), ?_⟩
  intro B F H σ ρ Q s sb r post
  show t σ H _
  refine Evals.seq h2 s sb r post fun F1 H1 d v e1 x1 sb1 r1 gg post1 => ?_
  show tl σ H1 _
  refine Evals.seq l2 x1.fh sb1 r1 post1 fun F2 H2 o o' e2 x2 sb2 r2 g2 post2 => ?_
  cases g2
  show th σ H2 _
  refine Evals.seq u2 x2.fh sb2 r2 post2 fun F3 H3 o2 o2' e3 x3 sb3 r3 g3 post3 => ?_
  cases g3
  have gg := (gg.mono x2).mono x3
  cases d with
  | str z =>
    have post3 : Post E W σ F3 H3 (GS E H3) Q (if z.length ≤ sizeLine then .ok (.str (cutS z o o2)) else .no) := post3
    by_cases c : z.length ≤ sizeLine
    · rw [if_pos c] at post3
      exact .inl ⟨z, repO_str gg, c, ev_ok x3.fh post3 rfl⟩
    · rw [if_neg c] at post3; exact post3.elim
  | tup ds =>
    have post3 : Post E W σ F3 H3 (GS E H3) Q (if HT.sIx ds.length 0 o = 0 ∧ HT.sIx ds.length ds.length o2 = ds.length then .no else .ok (.tup (cutD ds o o2))) := post3
    by_cases c : HT.sIx ds.length 0 o = 0 ∧ HT.sIx ds.length ds.length o2 = ds.length
    · rw [if_pos c] at post3; exact post3.elim
    · rw [if_neg c] at post3
      obtain ⟨a, vs, rfl, q1, q2⟩ := repO_tup gg
      refine .inr ⟨a, vs, rfl, sqT_mono x3.fh q1, by rw [← q2.len]; exact c, fun p hp => post3 _ _ _ (Ext.new x3.fh hp) (gs_newT x3.fh hp (repL_cut q2 _ _))⟩
  | _ => exact post3.elim

/-! ## fields -/
/-- what the walk asks of a class: its own methods' way of reading, no class attribute of these names -/
structure ClsOk (E : Am) (C : Str) (fs : List Str) : Prop where
  cl : Cls E.K (E.cl C)
  no : ∀ f ∈ fs, NoAttr E.K (E.cl C) f
def lookD (f : Str) : List Str → List D → Option D
  | n :: ns, d :: ds => if f = n then some d else lookD f ns ds
  | _, _ => none
theorem look_rep {F : Hp} {f : Str} {d : D} : ∀ {ns : List Str} {ds : List D} {vs : List V}, RepL E F ds vs → lookD f ns ds = some d → ∃ v, (ns.zip vs).lookup f = some v ∧ Rep E F d v
  | [], ds, vs, h, e => by simp [lookD] at e
  | n :: ns, [], vs, h, e => by simp [lookD] at e
  | n :: ns, x :: ds, vs, h, e => by
    obtain ⟨v, r, rfl, h1, h2⟩ := h
    unfold lookD at e
    by_cases q : f = n
    · rw [if_pos q] at e; cases e
      subst q
      exact ⟨v, by simp [List.lookup], h1⟩
    · rw [if_neg q] at e
      obtain ⟨u, e1, e2⟩ := look_rep h2 e
      refine ⟨u, ?_, e2⟩
      have qb : (f == n) = false := by simpa using q
      show (match f == n with | true => some v | false => (ns.zip r).lookup f) = some u
      rw [qb]; exact e1
theorem look_none {f : Str} : ∀ {ns : List Str} {vs : List V}, f ∉ ns → (ns.zip vs).lookup f = none
  | [], vs, h => rfl
  | n :: ns, [], h => rfl
  | n :: ns, v :: vs, h => by
    have qb : (f == n) = false := by
      have : f ≠ n := fun z => h (by rw [z]; exact List.mem_cons_self)
      simpa using this
    show (match f == n with | true => some v | false => (ns.zip vs).lookup f) = none
    rw [qb]; exact look_none fun z => h (List.mem_cons_of_mem _ z)
def fFld (C f : Str) : D → Rs D
  | .ins C' ns ds => if C' = C then (match lookD f ns ds with | some d => .ok d | none => .no) else .no
  | _ => .no
theorem repO_ins {F H : Hp} (s : Same F H) {C : Str} {ns : List Str} {ds : List D} {v : V} (h : RepO E F H (.ins C ns ds) v) : ∃ a dx vs, v = .ref a ∧ H a = some (.ins (E.cl C) dx (ns.zip vs)) ∧ ns.length = ds.length ∧ RepL E F ds vs := by
  rcases h with ⟨a, dx, vs, h1, h2, h3, h4⟩ | ⟨l, ho, h1, h2, dx, vs, h3, h4, h5⟩
  · exact ⟨a, dx, vs, h1, s _ _ h2, h3, h4⟩
  · exact ⟨l, dx, vs, h1, by rw [h2, h3], h4, h5⟩
theorem xe_fld {e : Expr} {f C : Str} {fs : List Str} {pos : Pos} {p : Ev → Rs D} {k : Nat} {cm : Bool} (c : CtxB X E W k cm) (hc : ClsOk E C fs) (hf : f ∈ fs) (h : XL X E W e p) (hb : ∀ i, attributeBase e f (X i).env (eval e (X i).env) = eval e (X i).env := by intro _; rfl) : XE X E W (.Attribute e f pos) (pUn (fFld C f) p) := by
  obtain ⟨t, h1, h2⟩ := h
  refine ⟨tFld E.K t f, fun i => by rw [← c.K i]; exact pe_fld (h1 i) (hb i), ?_⟩
  intro B F H σ ρ Q s sb r post
  show t σ H _
  refine Evals.seq h2 s sb r post fun F1 H1 d v e1 x1 sb1 r1 gg post1 => ?_
  unfold fFld at post1
  split at post1
  · rename_i C' ns ds
    by_cases c : C' = C
    · rw [if_pos c] at post1
      subst c
      split at post1
      · rename_i d' ed
        obtain ⟨a, dx, vs, rfl, q1, q2, q3⟩ := repO_ins x1.fh gg
        obtain ⟨v, e2, e3⟩ := look_rep q3 ed
        exact ⟨a, _, dx, _, v, rfl, q1, hc.cl, hc.no f hf, e2, ev_ok x1.fh post1 e3⟩
      · exact post1.elim
    · rw [if_neg c] at post1; exact post1.elim
  · exact post1.elim

/-! ## sorted -/
def alikeOk (ds : List D) : Bool := ds.all fun d => ds.all fun d' => PySem.W.alike (toPy d) (toPy d')
def tupOk : PyData → Bool | .tuple (_ :: _) => true | _ => false
def flatOk : PyData → Bool | .none => false | .tuple _ => false | _ => true
def sortOk (ds : List D) : Bool := alikeOk ds && (ds.all (fun d => tupOk (toPy d)) || ds.all (fun d => flatOk (toPy d))) && ds.all (fun d => shp d)
def dLe : D → D → Bool := PySem.W.dataLe false toPy
theorem each_vals : ∀ {zs : List (V × D)} {us : List Value}, Vals (zs.map Prod.fst) us → PySem.W.EachIs (fun v (b : V × D) => RelV b.1 v) us zs
  | [], us, h => by cases h; exact .nil
  | z :: zs, us, h => by cases h with | cons r t => exact .cons r (each_vals t)
theorem vals_each : ∀ {zs : List (V × D)} {us : List Value}, PySem.W.EachIs (fun v (b : V × D) => RelV b.1 v) us zs → Vals (zs.map Prod.fst) us
  | [], us, h => by cases h; exact .nil
  | z :: zs, us, h => by cases h with | cons r t => exact .cons r (vals_each t)
def rSrt (K : PySem.W.Frag) : List V → Hp → VK → Prop := fun vs H Q => ∃ (a : Addr) (zs : List (V × D)), vs = [.ref a] ∧ SqL K H a (zs.map Prod.fst) ∧ DpAll K H (zs.map Prod.fst) ((zs.map Prod.snd).map toPy) ∧
  PySem.W.AllAlike ((zs.map Prod.snd).map toPy) ∧ PySem.W.Sortable ((zs.map Prod.snd).map toPy) ∧ (∀ z ∈ zs, (toPy z.2).depth ≤ 64) ∧
  ∀ p, H p = none → Q (.ref p) (upd H p (.lst ((zs.mergeSort (PySem.W.dataLe false fun z => toPy z.2)).map Prod.fst)))
theorem cr_srt (hu : Y.A.units + 200 < cLine) : CallR Y (.builtin "sorted") (rSrt Y.K) := by
  intro pins s σ H vs us Q I r h
  obtain ⟨a, zs, rfl, hs, hd, h1, h2, h3, q⟩ := h
  obtain ⟨its, rv, hl, hz⟩ := I.list hs
  rw [Vals.ref1 r]
  obtain ⟨ws, rd⟩ := Dp.readsAll I _ _ _ hd rv
  have e1 : (zs.map Prod.snd).map toPy = zs.map fun z => toPy z.2 := by rw [List.map_map]; rfl
  rw [e1] at rd h1 h2
  rw [List.length_map] at hz
  refine PySem.W.sorted_data (bs := zs) (R := fun v (b : V × D) => RelV b.1 v) (enc := fun z => toPy z.2) hl.isList (each_vals rv) (PySem.W.readsAll_each _ rd) h1 h2 hz (fun b hb => by have := h3 b hb; omega) fun out ho eo => ?_
  obtain ⟨ep, he'⟩ := PyProof.Rows.sortedAll_at s.heap its out.toArray
  have hv := vals_each eo
  have hlen : ((zs.mergeSort (PySem.W.dataLe false fun z => toPy z.2)).map Prod.fst).length ≤ sizeLine := by rw [List.length_map, List.length_mergeSort]; exact hz
  exact ⟨.ref _, upd H (s.heap.objs.size + 1) (.lst ((zs.mergeSort (PySem.W.dataLe false fun z => toPy z.2)).map Prod.fst)), I.laid (t' := s.toks) (fun _ _ => PyProof.Rows.sortedAll_old) (Nat.le_succ _) ⟨hlen, out, ep, hv, he'⟩, rfl, q _ (I.hok.fresh (Nat.le_succ _))⟩
def fSorted : List D → Rs D
  | [d] => (match itemsL d with | some ds => if sortOk ds && decide (ds.length ≤ sizeLine) then .ok (.lst (ds.mergeSort dLe)) else .no | none => .no)
  | _ => .no
theorem repL_zip {F : Hp} : ∀ {ds : List D} {vs : List V}, RepL E F ds vs → (vs.zip ds).map Prod.fst = vs ∧ (vs.zip ds).map Prod.snd = ds ∧ ∀ z ∈ vs.zip ds, Rep E F z.2 z.1
  | [], vs, h => by cases h; exact ⟨rfl, rfl, fun z hz => by simp at hz⟩
  | d :: ds, vs, h => by
    obtain ⟨v, r, rfl, h1, h2⟩ := h
    obtain ⟨a, b, c⟩ := repL_zip h2
    refine ⟨by simp [a], by simp [b], fun z hz => ?_⟩
    rw [List.zip_cons_cons] at hz
    rcases List.mem_cons.mp hz with rfl | hz
    · exact h1
    · exact c z hz
theorem repL_of_all {F : Hp} : ∀ {zs : List (V × D)}, (∀ z ∈ zs, Rep E F z.2 z.1) → RepL E F (zs.map Prod.snd) (zs.map Prod.fst)
  | [], _ => rfl
  | z :: zs, h => .cons (h z List.mem_cons_self) (repL_of_all fun y hy => h y (List.mem_cons_of_mem _ hy))
theorem shpAll_lay : ∀ {ds : List D}, ds.all (fun d => shp d) = true → PyData.canLayAll0 (toPyL ds) = true
  | [], _ => rfl
  | d :: ds, h => by
    rw [List.all_cons, Bool.and_eq_true] at h
    show ((toPy d).canLay0 && PyData.canLayAll0 (toPyL ds)) = true
    rw [SeqAt.canLay_of_shaped h.1, shpAll_lay h.2]; rfl
theorem cals_sorted : CalS E (GN E) (rSrt E.K) fSorted := by
  intro W F H σ ds vs Q s h post
  unfold fSorted at post
  split at post
  · split at post
    · rename_i es e
      by_cases c : (sortOk es && decide (es.length ≤ sizeLine)) = true
      · rw [if_pos c] at post
        obtain ⟨c0, c9⟩ := Bool.and_eq_true_iff.mp c
        obtain ⟨c1, c2⟩ := Bool.and_eq_true_iff.mp c0
        obtain ⟨c3, c4⟩ := Bool.and_eq_true_iff.mp c1
        obtain ⟨v, rfl, h1⟩ := rol1 h
        obtain ⟨a, us, rfl, q1, q2⟩ := repO_list s e h1
        obtain ⟨z1, z2, z3⟩ := repL_zip q2
        have hd := RepL.dp s es us (shpAll_lay c2) q2
        rw [toPyL_map] at hd
        refine ⟨a, us.zip es, rfl, by rw [z1]; exact q1, by rw [z1, z2]; exact hd, ?_, ?_, ?_, fun p hp => ?_⟩
        · rw [z2]
          intro d hdm d' hdm'
          obtain ⟨x, hx, rfl⟩ := List.mem_map.mp hdm
          obtain ⟨y, hy, rfl⟩ := List.mem_map.mp hdm'
          exact List.all_eq_true.mp (List.all_eq_true.mp c3 x hx) y hy
        · rw [z2]
          rcases Bool.or_eq_true_iff.mp c4 with c5 | c5
          · refine .inl fun d hdm => ?_
            obtain ⟨x, hx, rfl⟩ := List.mem_map.mp hdm
            have := List.all_eq_true.mp c5 x hx
            cases q : toPy x <;> rw [q] at this <;> simp [tupOk] at this
            rename_i l
            cases l with
            | nil => simp at this
            | cons x r => exact ⟨x, r, rfl⟩
          · refine .inr fun d hdm => ?_
            obtain ⟨x, hx, rfl⟩ := List.mem_map.mp hdm
            have := List.all_eq_true.mp c5 x hx
            cases q : toPy x <;> rw [q] at this <;> simp [flatOk] at this <;> exact ⟨by simp, by simp⟩
        · intro z hz
          have hm : z.2 ∈ es := by rw [← z2]; exact List.mem_map_of_mem hz
          exact SeqAt.depth_of_shaped (List.all_eq_true.mp c2 z.2 hm)
        · refine post _ _ _ (Ext.newH s hp) (gn_newL s (Same.refl H) hp ?_)
          have e5 : es.mergeSort dLe = ((us.zip es).mergeSort (PySem.W.dataLe false fun z => toPy z.2)).map Prod.snd := by
            have e6 := List.map_mergeSort (r := PySem.W.dataLe false fun z : V × D => toPy z.2) (s := dLe) (f := Prod.snd) (l := us.zip es) (fun a _ b _ => rfl)
            rw [e6, z2]
          rw [e5]
          exact repL_of_all fun z hz => z3 z (List.mem_mergeSort.mp hz)
      · rw [if_neg c] at post; exact post.elim
    · exact post.elim
  · exact post.elim
end DL
end

section
set_option linter.all false
set_option maxRecDepth 100000
set_option maxHeartbeats 4000000
namespace DL
open PySem PySem.Spec L2
section
variable {I : Type} {X : I → Cx} {E : Am} {W : WX} {k : Nat} {a b d : Expr} {pos : Pos} {pa pb pd : Ev → Rs D}

/-! ## the operators by name -/
theorem xe_add {cm : Bool} (c : CtxB X E W k cm) (ha : XL X E W a pa) (hb : XL X E W b pb) : XE X E W (.BinOp a .Add b pos) (pBin fAdd pa pb) := xe_bin (fun i => by rw [← c.K i]; exact op_addA) ops_add ha hb
theorem xe_sub {cm : Bool} (c : CtxB X E W k cm) (ha : XL X E W a pa) (hb : XL X E W b pb) : XE X E W (.BinOp a .Sub b pos) (pBin fSub pa pb) := xe_bin (fun i => op_sub) ops_sub ha hb
theorem xe_mul {cm : Bool} (c : CtxB X E W k cm) (ha : XL X E W a pa) (hb : XL X E W b pb) : XE X E W (.BinOp a .Mult b pos) (pBin fMul pa pb) := xe_bin (fun i => op_mulA) ops_mul ha hb
theorem xe_div {cm : Bool} (c : CtxB X E W k cm) (ha : XL X E W a pa) (hb : XL X E W b pb) : XE X E W (.BinOp a .FloorDiv b pos) (pBin fDiv pa pb) := xe_bin (fun i => op_fdivW) ops_div ha hb
theorem xe_mod {cm : Bool} (c : CtxB X E W k cm) (ha : XL X E W a pa) (hb : XL X E W b pb) : XE X E W (.BinOp a .Mod b pos) (pBin fMod pa pb) := xe_bin (fun i => op_mod) ops_mod ha hb
theorem xe_pow {cm : Bool} (c : CtxB X E W k cm) (ha : XL X E W a pa) (hb : XL X E W b pb) : XE X E W (.BinOp a .Pow b pos) (pBin fPow pa pb) := xe_bin (fun i => op_pow) ops_pow ha hb
/-- a comparison's rule -/
def CmpR {I : Type} (X : I → Cx) (E : Am) (op : CmpOp) (f : D → D → Rs D) : Prop := ∃ r, (∀ i, OpR (X i) (compareOp op) r) ∧ OpS E r f
theorem cmp_lt {cm : Bool} (c : CtxB X E W k cm) : CmpR X E .Lt fLt := ⟨_, fun _ => op_lt, ops_lt⟩
theorem cmp_le {cm : Bool} (c : CtxB X E W k cm) : CmpR X E .LtE fLe := ⟨_, fun _ => op_le, ops_le⟩
theorem cmp_gt {cm : Bool} (c : CtxB X E W k cm) : CmpR X E .Gt fGt := ⟨_, fun _ => op_gt, ops_gt⟩
theorem cmp_ge {cm : Bool} (c : CtxB X E W k cm) : CmpR X E .GtE fGe := ⟨_, fun _ => op_ge, ops_ge⟩
theorem cmp_eq {cm : Bool} (c : CtxB X E W k cm) : CmpR X E .Eq fEq := ⟨_, fun i => by have := c.hu i; rw [← c.K i]; exact op_eqA (by omega), ops_eq⟩
theorem cmp_ne {cm : Bool} (c : CtxB X E W k cm) : CmpR X E .NotEq fNe := ⟨_, fun i => by have := c.hu i; rw [← c.K i]; exact op_neA (by omega), ops_ne⟩
theorem cmp_is {cm : Bool} (c : CtxB X E W k cm) : CmpR X E .Is fIs := ⟨_, fun _ => op_isN, ops_is⟩
theorem cmp_isNot {cm : Bool} (c : CtxB X E W k cm) : CmpR X E .IsNot fIsNot := ⟨_, fun _ => op_notN, ops_isNot⟩
theorem cmp_in {cm : Bool} (c : CtxB X E W k cm) : CmpR X E .In (fIn false) := ⟨_, fun i => by rw [← c.K i]; exact op_inA, ops_in⟩
theorem cmp_notIn {cm : Bool} (c : CtxB X E W k cm) : CmpR X E .NotIn (fIn true) := ⟨_, fun i => by rw [← c.K i]; exact op_notInA, ops_notIn⟩
theorem ye_cmp {op : CmpOp} {f : D → D → Rs D} (h : CmpR X E op f) (ha : XL X E W a pa) (hb : XL X E W b pb) (hm : behindInMarks op b = false) : XE X E W (.Compare a [op] [b] pos) (pBin f pa pb) := by
  obtain ⟨r, h1, h2⟩ := h
  exact xe_cmp h1 h2 ha hb hm
theorem yt_cmp {op : CmpOp} {f : D → D → Rs D} (h : CmpR X E op f) (ha : XL X E W a pa) (hb : XL X E W b pb) (hm : behindInMarks op b = false) : XT X E W (.Compare a [op] [b] pos) (fun ρ => (pBin f pa pb ρ).bind toB) := by
  obtain ⟨r, h1, h2⟩ := h
  exact xt_cmp h1 h2 ha hb hm
theorem ye_chain {op op' : CmpOp} {f f' : D → D → Rs D} (h : CmpR X E op f) (h' : CmpR X E op' f') (ha : XL X E W a pa) (hb : XL X E W b pb) (hd : XL X E W d pd) (hm : lastMarks [op, op'] [b, d] = false := by with_unfolding_all rfl) : XE X E W (.Compare a [op, op'] [b, d] pos) (pChain f f' pa pb pd) := by
  obtain ⟨r, h1, h2⟩ := h
  obtain ⟨r', h3, h4⟩ := h'
  exact xe_chain h1 h2 h3 h4 ha hb hd hm
theorem yt_chain {op op' : CmpOp} {f f' : D → D → Rs D} (h : CmpR X E op f) (h' : CmpR X E op' f') (ha : XL X E W a pa) (hb : XL X E W b pb) (hd : XL X E W d pd) (hm : lastMarks [op, op'] [b, d] = false := by with_unfolding_all rfl) : XT X E W (.Compare a [op, op'] [b, d] pos) (fun ρ => (pChain f f' pa pb pd ρ).bind toB) := by
  obtain ⟨r, h1, h2⟩ := h
  obtain ⟨r', h3, h4⟩ := h'
  exact xt_chain h1 h2 h3 h4 ha hb hd hm
end

/-! ## targets -/
def GTok (E : Am) (vs : List Nat) (g : TG) (pg : D → Ev → Option Ev) : Prop :=
  ∀ (B F H : Hp) (σ : L2.St) (ρ : Ev) (d : D) (v : V) (Q : L2.St → Hp → Prop) (ρ' : Ev), Same F H → StR E B F H σ ρ → Rep E F d v → pg d ρ = some ρ' →
    (∀ σ', StR E B F H σ' ρ' → σ'.length = σ.length → (∀ j, j ∉ vs → σ'[j]? = σ[j]?) → Q σ' H) → g v σ H Q
def XG {I : Type} (X : I → Cx) (E : Am) (tg : Expr) (vs : List Nat) (pg : D → Ev → Option Ev) : Prop := ∃ g, (∀ i, PG (X i) tg g) ∧ GTok E vs g pg
def gN (i : Nat) : D → Ev → Option Ev := fun d ρ => some (ρ.set i (.dat d))
def GTsok (E : Am) (vs : List Nat) (g : TGs) (pg : List D → Ev → Option Ev) : Prop :=
  ∀ (B F H : Hp) (σ : L2.St) (ρ : Ev) (ds : List D) (us : List V) (Q : L2.St → Hp → Prop) (ρ' : Ev), Same F H → StR E B F H σ ρ → RepL E F ds us → pg ds ρ = some ρ' →
    (∀ σ', StR E B F H σ' ρ' → σ'.length = σ.length → (∀ j, j ∉ vs → σ'[j]? = σ[j]?) → Q σ' H) → g us σ H Q
def XGs {I : Type} (X : I → Cx) (E : Am) (ts : List Expr) (vs : List Nat) (pg : List D → Ev → Option Ev) : Prop := ∃ g, (∀ i, PGs (X i) ts g) ∧ GTsok E vs g pg
section
variable {I : Type} {X : I → Cx} {E : Am} {W : WX} {k : Nat}
theorem xg_name {e : Expr} {i : Nat} (h : ∀ j, PG (X j) e (gName i)) : XG X E e [i] (gN i) := by
  refine ⟨_, h, fun B F H σ ρ d v Q ρ' s r rep e q => ?_⟩
  cases e
  refine q _ (r.setD rep) (by simp) fun j hj => ?_
  rw [List.getElem?_set_ne (by simp at hj; omega)]
def gsNil : List D → Ev → Option Ev := fun ds ρ => match ds with | [] => some ρ | _ => none
def gsCons (p : D → Ev → Option Ev) (q : List D → Ev → Option Ev) : List D → Ev → Option Ev := fun ds ρ => match ds with | d :: r => (p d ρ).bind fun ρ1 => q r ρ1 | [] => none
theorem xgs_nil : XGs X E [] [] gsNil := by
  refine ⟨_, fun _ => pgs_nil, fun B F H σ ρ ds us Q ρ' s r rep e q => ?_⟩
  cases ds with
  | nil => cases e; cases rep; exact ⟨rfl, q σ r rfl fun _ _ => rfl⟩
  | cons _ _ => cases e
theorem xgs_cons {e : Expr} {es : List Expr} {vs us : List Nat} {p : D → Ev → Option Ev} {q : List D → Ev → Option Ev} (h : XG X E e vs p) (h' : XGs X E es us q)
    (hs : ∀ i, (assignEach (e :: es) (X i).env).map (·.2) = assign e (X i).env :: (assignEach es (X i).env).map (·.2) := by intro _; rfl) : XGs X E (e :: es) (vs ++ us) (gsCons p q) := by
  obtain ⟨g, g1, g2⟩ := h
  obtain ⟨t, t1, t2⟩ := h'
  refine ⟨_, fun i => pgs_cons (g1 i) (t1 i) (hs i), fun B F H σ ρ ds ws Q ρ' s r rep e q => ?_⟩
  cases ds with
  | nil => cases e
  | cons d ds =>
    obtain ⟨v, vr, rfl, h1, h2⟩ := rep
    unfold gsCons at e
    obtain ⟨ρ1, e1, e2⟩ := Option.bind_eq_some_iff.mp e
    refine ⟨v, vr, rfl, g2 B F H σ ρ d v _ ρ1 s r h1 e1 fun σ1 r1 l1 k1 => ?_⟩
    refine t2 B F H σ1 ρ1 ds vr Q ρ' s r1 h2 e2 fun σ2 r2 l2 k2 => ?_
    refine q σ2 r2 (l2.trans l1) fun j hj => ?_
    rw [k2 j (fun z => hj (List.mem_append_right _ z)), k1 j (fun z => hj (List.mem_append_left _ z))]
def gTp (q : List D → Ev → Option Ev) : D → Ev → Option Ev := fun d ρ => match d with | .tup ds => q ds ρ | _ => none
/-- a, b, .. = a tuple -/
theorem xg_tup {es : List Expr} {kk : Nat} {pos : Pos} {vs : List Nat} {q : List D → Ev → Option Ev} {n : Nat} (c : Ctx X E W k) (h : XGs X E es vs q) (hl : ∀ ds ρ ρ', q ds ρ = some ρ' → ds.length = n)
    (hn : ∀ i, (assignEach es (X i).env).length = n := by intro _; rfl) (hst : ∀ i, (assignEach es (X i).env).findIdx? (·.1) = none := by intro _; rfl) : XG X E (.Tuple es kk pos) vs (gTp q) := by
  obtain ⟨g, g1, g2⟩ := h
  refine ⟨gTup E.K n g, fun i => by rw [← c.K i]; exact pg_tup (c.calm rfl i) (g1 i) (hn i) (hst i), fun B F H σ ρ d v Q ρ' s r rep e q => ?_⟩
  cases d <;> first | (cases e; done) | skip
  rename_i ds
  obtain ⟨a, us, rfl, h2, h3⟩ := rep
  have hlen := hl ds ρ ρ' e
  exact ⟨a, us, rfl, sqT_mono s h2, by rw [← h3.len]; exact hlen, g2 B F H σ ρ ds us Q ρ' s r h3 e q⟩
theorem gs_len0 : ∀ ds ρ ρ', gsNil ds ρ = some ρ' → ds.length = 0 := fun ds ρ ρ' e => by cases ds with | nil => rfl | cons _ _ => cases e
theorem gs_lenS {p : D → Ev → Option Ev} {q : List D → Ev → Option Ev} {n : Nat} (h : ∀ ds ρ ρ', q ds ρ = some ρ' → ds.length = n) : ∀ ds ρ ρ', gsCons p q ds ρ = some ρ' → ds.length = n + 1 := fun ds ρ ρ' e => by
  cases ds with
  | nil => cases e
  | cons d ds =>
    obtain ⟨ρ1, e1, e2⟩ := Option.bind_eq_some_iff.mp (show (p d ρ).bind (fun ρ1 => q ds ρ1) = some ρ' from e)
    rw [List.length_cons, h _ _ _ e2]
end

/-! ## what is walked -/
def Src (E : Am) (F' : Hp) (J : It) (ds : List D) : Prop := ∃ (G : Hp → Prop) (Y : Nat → Hp → V → Hp → Prop), Walk J ds.length G Y ∧ (∀ H2, Same F' H2 → G H2) ∧
  ∀ i H2 x H3 F2 d, ds[i]? = some d → Same F' F2 → Same F2 H2 → Y i H2 x H3 → ∃ F3, Ext F2 H2 F3 H3 ∧ Rep E F3 d x
abbrev GI (E : Am) : Hp → Hp → Hp → List D → It → Prop := fun _ F _ ds J => Src E F J ds
def XI {I : Type} (X : I → Cx) (E : Am) (W : WX) (tg iter : Expr) (p : Ev → Rs (List D)) : Prop := ∃ wi, (∀ i, PI (X i) tg iter wi) ∧ Evals E W (GI E) wi p
theorem pi_or {X : Cx} {tg iter : Expr} {w u : TI} (h : PI X tg iter w) (h' : PI X tg iter u) : PI X tg iter (fun σ H R => w σ H R ∨ u σ H R) := ⟨fun pins s σ H R I q => q.elim (h.run pins s σ H R I) (h'.run pins s σ H R I)⟩
def iterD : D → Option (List D)
  | .tup ds => some ds | .lst ds => some ds | .kl ds => some ds
  | .str z => some (z.cps.toList.map fun c => .str ⟨#[c]⟩)
  | _ => none
def pIter (p : Ev → Rs D) : Ev → Rs (List D) := fun ρ => (p ρ).bind fun d => match iterD d with | some ds => .ok ds | none => .no
section
variable {I : Type} {X : I → Cx} {E : Am} {W : WX} {k : Nat}
theorem src_list {F : Hp} {a : Addr} {vs : List V} {ds : List D} (h : SqL E.K F a vs) (r : RepL E F ds vs) : Src E F (Itl E.K a) ds := by
  refine ⟨_, _, by rw [r.len]; exact walk_list, fun H2 s => sqL_mono s h, fun i H2 x H3 F2 d e s1 s2 y => ?_⟩
  obtain ⟨rfl, y⟩ := y
  obtain ⟨d', e1, e2⟩ := r.getV y
  rw [e] at e1; cases e1
  exact ⟨F2, Ext.refl s2, Rep.mono s1 _ _ e2⟩
theorem src_tup {F : Hp} {a : Addr} {vs : List V} {ds : List D} (h : SqT E.K F a vs) (r : RepL E F ds vs) : Src E F (Itt E.K a) ds := by
  refine ⟨_, _, by rw [r.len]; exact walk_tup, fun H2 s => sqT_mono s h, fun i H2 x H3 F2 d e s1 s2 y => ?_⟩
  obtain ⟨rfl, y⟩ := y
  obtain ⟨d', e1, e2⟩ := r.getV y
  rw [e] at e1; cases e1
  exact ⟨F2, Ext.refl s2, Rep.mono s1 _ _ e2⟩
theorem src_str {F : Hp} {z : Str} : Src E F (Its z) (z.cps.toList.map fun c => .str ⟨#[c]⟩) := by
  refine ⟨_, _, by rw [List.length_map, Array.length_toList]; exact walk_str, fun _ _ => trivial, fun i H2 x H3 F2 d e s1 s2 y => ?_⟩
  obtain ⟨rfl, ch, y1, rfl⟩ := y
  refine ⟨F2, Ext.refl s2, ?_⟩
  rw [List.getElem?_map] at e
  have : z.cps.toList[i]? = some ch := by rw [Array.getElem?_toList]; exact y1
  rw [this] at e
  cases e
  rfl
theorem xi_seq {tg e : Expr} {p : Ev → Rs D} {cm : Bool} (c : CtxB X E W k cm) (h : XE X E W e p) : XI X E W tg e (pIter p) := by
  obtain ⟨t, h1, h2⟩ := h
  refine ⟨fun σ H R => iList E.K t σ H R ∨ (iTup E.K t σ H R ∨ iStr t σ H R), fun i => by rw [← c.K i]; exact pi_or (pi_list (h1 i)) (pi_or (pi_tup (h1 i)) (pi_str (h1 i))), fun B F H σ ρ Q s sb r post => ?_⟩
  cases e : p ρ with
  | no => unfold pIter at post; rw [e] at post; exact post.elim
  | err c z =>
    left
    show t σ H _
    exact Evals.seq h2 s sb r post fun F1 H1 d v e1 x1 sb1 r1 gg post1 => by rw [e] at e1; cases e1
  | ok d =>
    have key : ∀ ds, iterD d = some ds → (pIter p ρ) = .ok ds := fun ds hd => by unfold pIter; rw [e]; simp [hd]
    cases d with
    | lst ds =>
      rw [key ds rfl] at post
      left
      show t σ H _
      refine Evals.seq (k := fun d => .ok ds) h2 s sb r (by rw [e]; exact post) fun F1 H1 d v e1 x1 sb1 r1 gg post1 => ?_
      rw [e] at e1; cases e1
      obtain ⟨a, vs, rfl, q1, q2⟩ := gg
      exact ⟨a, rfl, ⟨vs, sqL_mono x1.fh (SqL.of q1)⟩, ev_ok x1.fh post1 (src_list (SqL.of q1) q2)⟩
    | kl ds =>
      rw [key ds rfl] at post
      left
      show t σ H _
      refine Evals.seq (k := fun d => .ok ds) h2 s sb r (by rw [e]; exact post) fun F1 H1 d v e1 x1 sb1 r1 gg post1 => ?_
      rw [e] at e1; cases e1
      obtain ⟨a, vs, rfl, q1, q2⟩ := gg
      exact ⟨a, rfl, ⟨vs, sqL_mono x1.fh q1⟩, ev_ok x1.fh post1 (src_list q1 q2)⟩
    | tup ds =>
      rw [key ds rfl] at post
      right; left
      show t σ H _
      refine Evals.seq (k := fun d => .ok ds) h2 s sb r (by rw [e]; exact post) fun F1 H1 d v e1 x1 sb1 r1 gg post1 => ?_
      rw [e] at e1; cases e1
      obtain ⟨a, vs, rfl, q1, q2⟩ := gg
      exact ⟨a, rfl, ⟨vs, sqT_mono x1.fh q1⟩, ev_ok x1.fh post1 (src_tup q1 q2)⟩
    | str z =>
      rw [key _ rfl] at post
      right; right
      show t σ H _
      refine Evals.seq (k := fun d => .ok _) h2 s sb r (by rw [e]; exact post) fun F1 H1 d v e1 x1 sb1 r1 gg post1 => ?_
      rw [e] at e1; cases e1
      cases gg
      exact ⟨z, rfl, ev_ok x1.fh post1 src_str⟩
    | _ => exfalso; unfold pIter at post; rw [e] at post; exact post
def rgD (lo : Int) (n : Nat) : List D := (List.range n).map fun i => .int (lo + (i : Nat))
def rgOk (i : Int) : Bool := Nat.blt i.natAbs 4611686018427387904
def pRg1 (q : Ev → Rs (List D)) : Ev → Rs (List D) := fun ρ => (q ρ).bind fun ds => match ds with | [.int n] => if rgOk n then .ok (rgD 0 n.toNat) else .no | _ => .no
def pRg2 (q : Ev → Rs (List D)) : Ev → Rs (List D) := fun ρ => (q ρ).bind fun ds => match ds with | [.int a, .int n] => if rgOk a && rgOk n then .ok (rgD a (n - a).toNat) else .no | _ => .no
theorem src_range {F : Hp} {lo : Int} {n : Nat} : Src E F (Itr lo n) (rgD lo n) := by
  refine ⟨_, _, by unfold rgD; rw [List.length_map, List.length_range]; exact walk_range, fun _ _ => trivial, fun i H2 x H3 F2 d e s1 s2 y => ?_⟩
  obtain ⟨rfl, rfl⟩ := y
  refine ⟨F2, Ext.refl s2, ?_⟩
  unfold rgD at e
  rw [List.getElem?_map] at e
  cases q : (List.range n)[i]? with
  | none => rw [q] at e; cases e
  | some j =>
    rw [q] at e
    have hj : i = j := by
      have := List.getElem?_eq_some_iff.mp q
      obtain ⟨h1, h2⟩ := this
      rw [List.getElem_range] at h2
      exact h2
    subst hj
    cases e
    rfl
theorem rgOk_iff {i : Int} (h : rgOk i = true) : -(2 ^ 62) ≤ i ∧ i < 2 ^ 62 := by
  have h1 : i.natAbs < 4611686018427387904 := Nat.le_of_ble_eq_true h
  have h2 : (2 ^ 62 : Int) = 4611686018427387904 := by decide
  rw [h2]
  omega
theorem xi_range1 {tg e : Expr} {p pos : Pos} {q : Ev → Rs (List D)} (hg : ∀ i, Gl (X i) "range") (hm : ∀ i, (X i).mg "range" = none) (ha : XAL X E W [e] q) (hs : ∀ i, starEach [e] (X i).env = [(false, eval e (X i).env)] := by intro _; rfl) : XI X E W tg (.Call (.Name "range" p) [e] [] pos) (pRg1 q) := by
  obtain ⟨t, h1, h2⟩ := ha
  refine ⟨_, fun i => pi_range1 (hg i) (hm i) (h1 i) (hs i), fun B F H σ ρ Q s sb r post => ?_⟩
  show t σ H _
  refine Evals.seq h2 s sb r post fun F1 H1 ds vs e1 x1 sb1 r1 gg post1 => ?_
  split at post1
  · rename_i n
    by_cases c : rgOk n = true
    · rw [if_pos c] at post1
      obtain ⟨v, rfl, g1⟩ := rol1 gg
      cases repO_int g1
      obtain ⟨c1, c2⟩ := rgOk_iff c
      exact ⟨n, rfl, c1, c2, ev_ok x1.fh post1 src_range⟩
    · rw [if_neg c] at post1; exact post1.elim
  · exact post1.elim
theorem xi_range2 {tg e e2 : Expr} {p pos : Pos} {q : Ev → Rs (List D)} (hg : ∀ i, Gl (X i) "range") (hm : ∀ i, (X i).mg "range" = none) (ha : XAL X E W [e, e2] q) (hs : ∀ i, starEach [e, e2] (X i).env = [(false, eval e (X i).env), (false, eval e2 (X i).env)] := by intro _; rfl) (hs2 : ∀ i, starEach [e2] (X i).env = [(false, eval e2 (X i).env)] := by intro _; rfl) :
    XI X E W tg (.Call (.Name "range" p) [e, e2] [] pos) (pRg2 q) := by
  obtain ⟨t, h1, h2⟩ := ha
  refine ⟨_, fun i => pi_range2 (hg i) (hm i) (h1 i) (hs i) (hs2 i), fun B F H σ ρ Q s sb r post => ?_⟩
  show t σ H _
  refine Evals.seq h2 s sb r post fun F1 H1 ds vs e1 x1 sb1 r1 gg post1 => ?_
  split at post1
  · rename_i a n
    by_cases c : (rgOk a && rgOk n) = true
    · rw [if_pos c] at post1
      obtain ⟨v, u, rfl, g1, g2⟩ := rol2 gg
      cases repO_int g1
      cases repO_int g2
      obtain ⟨d1, d2⟩ := Bool.and_eq_true_iff.mp c
      obtain ⟨c1, c2⟩ := rgOk_iff d1
      obtain ⟨c3, c4⟩ := rgOk_iff d2
      exact ⟨a, n, rfl, ⟨c1, c2, c3, c4⟩, ev_ok x1.fh post1 src_range⟩
    · rw [if_neg c] at post1; exact post1.elim
  · exact post1.elim
/-- enumerate(list) -/
def enumD (lo : Int) : List D → List D
  | [] => []
  | d :: ds => .tup [.int lo, d] :: enumD (lo + 1) ds
theorem enumD_get : ∀ {ds : List D} {lo : Int} {i : Nat} {x : D}, (enumD lo ds)[i]? = some x → ∃ d, ds[i]? = some d ∧ x = .tup [.int (lo + (i : Nat)), d]
  | [], lo, i, x, h => by simp [enumD] at h
  | d :: ds, lo, 0, x, h => by simp [enumD] at h; subst h; exact ⟨d, rfl, by simp⟩
  | d :: ds, lo, i + 1, x, h => by
    obtain ⟨y, e1, e2⟩ := enumD_get (ds := ds) (lo := lo + 1) (i := i) (by simpa [enumD] using h)
    refine ⟨y, by simpa using e1, ?_⟩
    rw [e2]
    have : lo + 1 + (i : Int) = lo + ((i + 1 : Nat) : Int) := by omega
    rw [this]
theorem enumD_len : ∀ {ds : List D} {lo : Int}, (enumD lo ds).length = ds.length
  | [], _ => rfl
  | d :: ds, lo => by simp [enumD, enumD_len]
def pEnum (q : Ev → Rs (List D)) : Ev → Rs (List D) := fun ρ => (q ρ).bind fun ds => match ds with | [d] => (match itemsL d with | some es => .ok (enumD 0 es) | none => .no) | _ => .no
theorem src_pair {F2 H2 H3 : Hp} {x y : V} {dx dy : D} {v : V} {T : Addr} (s2 : Same F2 H2) (hT : H2 T = none) (e : H3 = upd H2 T (.tup [x, y])) (ev : v = .ref T) (rx : Rep E F2 dx x) (ry : Rep E F2 dy y) : ∃ F3, Ext F2 H2 F3 H3 ∧ Rep E F3 (.tup [dx, dy]) v := by
  subst e ev
  exact ⟨upd F2 T (.tup [x, y]), Ext.new s2 hT, gs_newT s2 hT (.cons rx (.cons ry rfl))⟩
theorem src_enum {F : Hp} {a : Addr} {vs : List V} {ds : List D} (h : SqL E.K F a vs) (r : RepL E F ds vs) : Src E F (Ite E.K a) (enumD 0 ds) := by
  refine ⟨_, _, by rw [enumD_len, r.len]; exact walk_enum, fun H2 s => sqL_mono s h, fun i H2 x H3 F2 d e s1 s2 y => ?_⟩
  obtain ⟨T, x1, y1, e1, e2, e3, e4, e5⟩ := y
  obtain ⟨d', f1, f2⟩ := enumD_get e
  obtain ⟨d2, g1, g2⟩ := r.getV e5
  rw [f1] at g1; cases g1
  cases e4
  subst f2
  have z : (0 : Int) + (i : Int) = (i : Int) := by omega
  rw [z]
  exact src_pair s2 e2 e3 e1 rfl (Rep.mono s1 _ _ g2)
theorem xi_enum {e : Expr} {p pos tpos : Pos} {elts : List Expr} {kk : Nat} {q : Ev → Rs (List D)} {cm : Bool} (c : CtxB X E W k cm) (hg : ∀ i, Gl (X i) "enumerate") (hm : ∀ i, (X i).mg "enumerate" = none) (ha : XA X E W [e] q) (hs : ∀ i, starEach [e] (X i).env = [(false, eval e (X i).env)] := by intro _; rfl) :
    XI X E W (.Tuple elts kk tpos) (.Call (.Name "enumerate" p) [e] [] pos) (pEnum q) := by
  obtain ⟨t, h1, h2⟩ := ha
  refine ⟨iEnum E.K t, fun i => by rw [← c.K i]; exact pi_enum (hg i) (hm i) (h1 i) (hs i), fun B F H σ ρ Q s sb r post => ?_⟩
  show t σ H _
  refine Evals.seq h2 s sb r post fun F1 H1 ds vs e1 x1 sb1 r1 gg post1 => ?_
  split at post1
  · split at post1
    · rename_i d es ed
      obtain ⟨v, r', rfl, g1, g2⟩ := gg
      cases g2
      obtain ⟨a, us, rfl, q1, q2⟩ := repO_list (F := F1) (H := F1) (Same.refl F1) ed (.inl g1)
      exact ⟨a, us, rfl, sqL_mono x1.fh q1, ev_ok x1.fh post1 (src_enum q1 q2)⟩
    · exact post1.elim
  · exact post1.elim
def zipD : List D → List D → List D
  | x :: xs, y :: ys => .tup [x, y] :: zipD xs ys
  | _, _ => []
theorem zipD_get : ∀ {xs ys : List D} {i : Nat} {x : D}, (zipD xs ys)[i]? = some x → ∃ a b, xs[i]? = some a ∧ ys[i]? = some b ∧ x = .tup [a, b]
  | [], _, i, x, h => by simp [zipD] at h
  | _ :: _, [], i, x, h => by simp [zipD] at h
  | a :: xs, b :: ys, 0, x, h => by simp [zipD] at h; subst h; exact ⟨a, b, rfl, rfl, rfl⟩
  | a :: xs, b :: ys, i + 1, x, h => by
    obtain ⟨a', b', h1, h2, h3⟩ := zipD_get (xs := xs) (ys := ys) (i := i) (by simpa [zipD] using h)
    exact ⟨a', b', by simpa using h1, by simpa using h2, h3⟩
theorem zipD_len : ∀ {xs ys : List D}, (zipD xs ys).length = min xs.length ys.length
  | [], _ => by simp [zipD]
  | _ :: _, [] => by simp [zipD]
  | a :: xs, b :: ys => by simp [zipD, zipD_len]
def pZip (q : Ev → Rs (List D)) : Ev → Rs (List D) := fun ρ => (q ρ).bind fun ds => match ds with | [d, e] => (match itemsL d, itemsL e with | some xs, some ys => .ok (zipD xs ys) | _, _ => .no) | _ => .no
theorem src_zip {F : Hp} {a b : Addr} {vs us : List V} {ds es : List D} (h : SqL E.K F a vs) (r : RepL E F ds vs) (h' : SqL E.K F b us) (r' : RepL E F es us) : Src E F (Itz E.K a b) (zipD ds es) := by
  refine ⟨_, _, walk_zip (by rw [zipD_len, r.len, r'.len]), fun H2 s => ⟨sqL_mono s h, sqL_mono s h'⟩, fun i H2 x H3 F2 d e s1 s2 y => ?_⟩
  obtain ⟨T, x1, y1, e1, e2, e3, e4, e5⟩ := y
  obtain ⟨d1, d2, f1, f2, f3⟩ := zipD_get e
  obtain ⟨q1, g1, g2⟩ := r.getV e4
  obtain ⟨q2, g3, g4⟩ := r'.getV e5
  rw [f1] at g1; cases g1
  rw [f2] at g3; cases g3
  subst f3
  exact src_pair s2 e2 e3 e1 (Rep.mono s1 _ _ g2) (Rep.mono s1 _ _ g4)
theorem xi_zip {e e2 : Expr} {p pos tpos : Pos} {elts : List Expr} {kk : Nat} {q : Ev → Rs (List D)} {cm : Bool} (c : CtxB X E W k cm) (hg : ∀ i, Gl (X i) "zip") (hm : ∀ i, (X i).mg "zip" = none) (ha : XA X E W [e, e2] q) (hs : ∀ i, starEach [e, e2] (X i).env = (false, eval e (X i).env) :: starEach [e2] (X i).env := by intro _; rfl) (hpl : ∀ i, (backTo pos (starEach [e2] (X i).env)).any (·.1) = false := by intro _; rfl) :
    XI X E W (.Tuple elts kk tpos) (.Call (.Name "zip" p) [e, e2] [] pos) (pZip q) := by
  obtain ⟨t, h1, h2⟩ := ha
  refine ⟨iZip E.K t, fun i => by rw [← c.K i]; exact pi_zip (hg i) (hm i) (h1 i) (hs i) (hpl i), fun B F H σ ρ Q s sb r post => ?_⟩
  show t σ H _
  refine Evals.seq h2 s sb r post fun F1 H1 ds vs e1 x1 sb1 r1 gg post1 => ?_
  split at post1
  · split at post1
    · rename_i d e xs ys ed ee
      obtain ⟨v, r', rfl, g1, g2⟩ := gg
      obtain ⟨v', r'', rfl, g3, g4⟩ := g2
      cases g4
      obtain ⟨a, us, rfl, q1, q2⟩ := repO_list (F := F1) (H := F1) (Same.refl F1) ed (.inl g1)
      obtain ⟨b, ws, rfl, q3, q4⟩ := repO_list (F := F1) (H := F1) (Same.refl F1) ee (.inl g3)
      exact ⟨a, b, us, ws, rfl, sqL_mono x1.fh q1, sqL_mono x1.fh q3, ev_ok x1.fh post1 (src_zip q1 q2 q3 q4)⟩
    · exact post1.elim
  · exact post1.elim
end
end DL
end

section
set_option linter.all false
set_option maxRecDepth 100000
set_option maxHeartbeats 4000000
namespace DL
open PySem PySem.Spec L2
/-- nothing may fly -/
abbrev W0 : WX := fun _ _ _ _ => False

/-! ## comprehensions -/
def wipeE (ρ : Ev) : List Nat → Ev
  | [] => ρ
  | v :: vs => (wipeE ρ vs).set v .unb
theorem StR.wipe {E : Am} {B F H : Hp} {σ : L2.St} {ρ : Ev} (s : StR E B F H σ ρ) : ∀ vs : List Nat, StR E B F H (L2.wipe σ vs) (wipeE ρ vs)
  | [] => s
  | v :: vs => (StR.wipe s vs).setU
theorem wipe_get {σ : L2.St} {j : Nat} : ∀ {vs : List Nat}, j ∉ vs → (L2.wipe σ vs)[j]? = σ[j]?
  | [], _ => rfl
  | v :: vs, h => by
    show ((L2.wipe σ vs).set v none)[j]? = σ[j]?
    rw [List.getElem?_set_ne (fun z => h (by rw [z]; exact List.mem_cons_self)), wipe_get fun z => h (List.mem_cons_of_mem _ z)]
theorem wipe_in {σ : L2.St} {j : Nat} : ∀ {vs : List Nat}, j ∈ vs → (L2.wipe σ vs)[j]? = if j < σ.length then some none else none
  | [], h => by simp at h
  | v :: vs, h => by
    show ((L2.wipe σ vs).set v none)[j]? = _
    by_cases q : v = j
    · subst q
      by_cases hl : v < σ.length
      · rw [List.getElem?_set_self (by rw [wipe_length]; exact hl), if_pos hl]
      · rw [if_neg hl, List.getElem?_eq_none (by rw [List.length_set, wipe_length]; omega)]
    · rw [List.getElem?_set_ne q]
      exact wipe_in (by rcases List.mem_cons.mp h with z | z; exact absurd z.symm q; exact z)
theorem wipe_same {σ σ' : L2.St} {vs : List Nat} (hl : σ'.length = (L2.wipe σ vs).length) (h : ∀ j, j ∉ vs → σ'[j]? = (L2.wipe σ vs)[j]?) : L2.wipe σ' vs = L2.wipe σ vs := by
  apply List.ext_getElem?
  intro j
  rw [wipe_length] at hl
  by_cases q : j ∈ vs
  · rw [wipe_in q, wipe_in q, hl]
  · rw [wipe_get q, h j q]
def lcL (g : D → Ev → Option Ev) (pt : Ev → Rs Bool) (pe : Ev → Rs D) (ρ : Ev) : List D → Option (List D)
  | [] => some []
  | d :: ds => match g d ρ with
    | none => none
    | some ρ1 => match pt ρ1 with
      | .ok true => (match pe ρ1 with
        | .ok x => (lcL g pt pe ρ ds).map (x :: ·)
        | _ => none)
      | .ok false => lcL g pt pe ρ ds
      | _ => none
def pLc (ps : Ev → Rs (List D)) (g : D → Ev → Option Ev) (pt : Ev → Rs Bool) (pe : Ev → Rs D) (vs : List Nat) : Ev → Rs D := fun ρ =>
  (ps ρ).bind fun ds => if ds.length ≤ sizeLine then (match lcL g pt pe (wipeE ρ vs) ds with | some r => .ok (.lst r) | none => .no) else .no
/-- the contexts of the block -/
def Blk {I : Type} (X : I → Cx) (scope : Scope) : I × Shared × Hp × Addr × List (Str × Addr) × List Addr → Cx := fun j => (X j.1).blk j.2.1 j.2.2.1 scope (compEnvC scope j.2.2.2.2.1 j.2.2.2.1 (X j.1).env) j.2.2.2.2.2
def XTs {I : Type} (X : I → Cx) (E : Am) (W : WX) (ifs : List Expr) (p : Ev → Rs Bool) : Prop := ∃ t, (∀ i, PTs (X i) ifs t) ∧ Evals E W GB t p
def pYes : Ev → Rs Bool := fun _ => .ok true
section
variable {I : Type} {X : I → Cx} {E : Am} {W : WX} {k : Nat}
theorem Ctx.blk {cm : Bool} (c : CtxB X E W k cm) (scope : Scope) : CtxB (Blk X scope) E W0 k cm :=
  ⟨fun j => c.K j.1, fun h j => c.calm h j.1, fun h j => c.room h j.1, fun _ => takes0, fun _ => PassesOwn.never, fun j => c.unt j.1⟩
theorem xts_nil : XTs X E W [] pYes := ⟨_, fun _ => pts_nil, fun B F H σ ρ Q s sb r post => ev_ok s post rfl⟩
theorem xts_one {e : Expr} {p : Ev → Rs Bool} (h : XT X E W e p) : XTs X E W [e] p := by
  obtain ⟨t, h1, h2⟩ := h
  exact ⟨t, fun i => pts_one (h1 i), h2⟩
theorem rs_post {α β : Type} {E : Am} {W : WX} {σ : L2.St} {F H : Hp} {G : Hp → Hp → α → β → Prop} {Q : β → Hp → Prop} {r : Rs α} {a : α} (e : r = .ok a) (h : ∀ F' H' b, Ext F H F' H' → G F' H' a b → Q b H') : Post E W σ F H G Q r := by
  rw [e]; exact h
/-- a comprehension's parts and what it makes -/
def XLc {I : Type} (X : I → Cx) (E : Am) (W : WX) (elt tg iter : Expr) (ifs : List Expr) (scope : Scope) (own : List (Str × Nat)) (p : Ev → Rs D) : Prop := ∃ (wi : TI) (g : TG) (tt : TT) (te : TE),
  (∀ i, PI (X i) tg iter wi) ∧ (∀ j, PG (Blk X scope j) tg g) ∧ (∀ j, PTs (Blk X scope j) ifs tt) ∧ (∀ j, PE (Blk X scope j) elt te) ∧ Evals E W (GN E) (tLc wi g tt te (own.map (·.2))) p
theorem xlc {elt tg iter : Expr} {ifs : List Expr} {scope : Scope} {own : List (Str × Nat)} {ps : Ev → Rs (List D)} {g : D → Ev → Option Ev} {pt : Ev → Rs Bool} {pe : Ev → Rs D} {vs : List Nat} {cm : Bool} (c : CtxB X E W k cm)
    (hi : XI X E W tg iter ps) (hg : XG (Blk X scope) E tg vs g) (hv : ∀ j ∈ vs, j ∈ own.map (·.2)) (ht : XTs (Blk X scope) E W0 ifs pt) (he : XE (Blk X scope) E W0 elt pe) : XLc X E W elt tg iter ifs scope own (pLc ps g pt pe (own.map (·.2))) := by
  obtain ⟨wi, i1, i2⟩ := hi
  obtain ⟨gg, g1, g2⟩ := hg
  obtain ⟨tt, t1, t2⟩ := ht
  obtain ⟨te, e1, e2⟩ := he
  refine ⟨wi, gg, tt, te, i1, g1, t1, e1, ?_⟩
  intro B F H σ ρ Q s sb r post
  show wi σ H _
  refine Evals.seq (G2 := fun F' H' a b => GN E H F' H' a b) i2 s sb r post fun F1 H1 ds J _ x1 sb1 r1 src post1 => ?_
  by_cases cz : ds.length ≤ sizeLine
  · rw [if_pos cz] at post1
    cases el : lcL g pt pe (wipeE ρ (own.map (·.2))) ds with
    | none => rw [el] at post1; exact post1.elim
    | some fin =>
      rw [el] at post1
      intro D hD
      obtain ⟨G, Y, wk, hG, hY⟩ := src
      have hF1D : F1 D = none := x1.fh.free hD
      refine lc_it wk (Pv := fun i H' => ∃ F' acc accD rest, Ext F1 H1 F' H' ∧ H' D = some (.lst acc) ∧ F' D = none ∧ RepL E F' accD acc ∧ acc.length ≤ i ∧ lcL g pt pe (wipeE ρ (own.map (·.2))) (ds.drop i) = some rest ∧ accD ++ rest = fin)
        ⟨F1, [], [], fin, Ext.newH x1.fh hD, upd_same, hF1D, rfl, Nat.le_refl _, by rw [List.drop_zero]; exact el, rfl⟩ (fun i H' _ ⟨F', _, _, _, x, _⟩ => hG H' (x.f.trans x.fh)) ?_ ?_
      · rintro i x H2 H3 hin ⟨F2, acc, accD, rest, x2, hD2, hF2, ra, hal, hrest, hfin⟩ y
        have hd : ds[i]? = some ds[i] := List.getElem?_eq_getElem hin
        obtain ⟨F3, x3, rx⟩ := hY i H2 x H3 F2 _ hd x2.f x2.fh y
        have x13 := x2.trans x3
        have hD3 : H3 D = some (.lst acc) := x3.h _ _ hD2
        have hF3 : F3 D = none := by rw [x3.keep hD2 (fun _ z => by cases z)]; exact hF2
        have r3 : StR E B F3 H3 (L2.wipe σ (own.map (·.2))) (wipeE ρ (own.map (·.2))) := (r1.mono x13).wipe _
        have sb3 : Same B H3 := sb1.trans x13.h
        rw [List.drop_eq_getElem_cons hin] at hrest
        unfold lcL at hrest
        split at hrest
        · cases hrest
        · rename_i ρ1 eg
          refine g2 B F3 H3 _ _ ds[i] x _ ρ1 x3.fh r3 rx eg fun σ2 r4 hl4 hk4 => ?_
          refine ⟨wipe_same hl4 fun j hj => hk4 j fun z => hj (hv j z), ?_⟩
          split at hrest
          · rename_i ept
            refine t2 B F3 H3 σ2 ρ1 _ x3.fh sb3 r4 (rs_post ept fun F4 H4 b x4 gb => ?_)
            cases gb
            rw [if_pos rfl]
            split at hrest
            · rename_i xd epe
              obtain ⟨rest', hr1, hr2⟩ := Option.map_eq_some_iff.mp hrest
              refine e2 B F4 H4 σ2 ρ1 _ x4.fh (sb3.trans x4.h) (r4.mono x4) (rs_post epe fun F5 H5 v x5 gv => ?_)
              have x15 := (x13.trans x4).trans x5
              have hD5 : H5 D = some (.lst acc) := x5.h _ _ (x4.h _ _ hD3)
              have hF5 : F5 D = none := by rw [(x4.trans x5).keep hD3 (fun _ z => by cases z)]; exact hF3
              refine ⟨acc, hD5, by omega, F5, acc ++ [v], accD ++ [xd], rest', x15.wr hF5 hD, upd_same, hF5, ?_, by rw [List.length_append]; simp; omega, hr1, by rw [← hfin, ← hr2]; simp⟩
              exact (RepL.mono ((x3.trans (x4.trans x5)).f) _ _ ra).append (.cons gv rfl)
            · cases hrest
          · rename_i ept
            refine t2 B F3 H3 σ2 ρ1 _ x3.fh sb3 r4 (rs_post ept fun F4 H4 b x4 gb => ?_)
            cases gb
            rw [if_neg Bool.false_ne_true]
            exact ⟨F4, acc, accD, rest, x13.trans x4, x4.h _ _ hD3, by rw [x4.keep hD3 (fun _ z => by cases z)]; exact hF3, RepL.mono (x3.trans x4).f _ _ ra, by omega, hrest, hfin⟩
          · cases hrest
      · rintro H2 ⟨F2, acc, accD, rest, x2, hD2, hF2, ra, hal, hrest, hfin⟩
        rw [List.drop_length] at hrest
        cases hrest
        rw [List.append_nil] at hfin
        subst hfin
        exact post1 F2 H2 _ x2 ⟨D, _, rfl, x1.h.free hD, hF2, hD2, acc, rfl, ra⟩
  · rw [if_neg cz] at post1; exact post1.elim
theorem xn_lc {elt tg iter : Expr} {ifs : List Expr} {scope : Scope} {own : List (Str × Nat)} {pos : Pos} {p : Ev → Rs D} (c : Ctx X E W k) (hN : ∀ i, (X i).N.Nodup) (h : XLc X E W elt tg iter ifs scope own p) (ok : ∀ i, BlkOk (X i).N (X i).env.scope scope own)
    (hs : ∀ i x, foldedSetIterable iter (X i).env x = pure x := by intro _ _; rfl) : XN X E W (.ListComp elt [⟨tg, iter, ifs, 0⟩] scope pos) p := by
  obtain ⟨wi, g, tt, te, h1, h2, h3, h4, h5⟩ := h
  exact ⟨_, fun i => pe_lc (c.calm rfl i) (hN i) (h1 i) (ok i) (fun s H C cl fp => h2 (i, s, H, C, cl, fp)) (fun s H C cl fp => h3 (i, s, H, C, cl, fp)) (fun s H C cl fp => h4 (i, s, H, C, cl, fp)) (hs i), h5⟩
end

/-! ## statements -/
inductive Fl where
  | nx (ρ : Ev) | rt (d : D) | bk (ρ : Ev) | ct (ρ : Ev) | err (c : Str) (x : Option (Str × D)) (ρ : Ev) | no
def PostS (E : Am) (W : WX) (F0 B : Hp) (Dn : Ends) : Fl → Prop
  | .nx ρ => ∀ F' H' σ', Ext F0 B F' H' → StR E B F' H' σ' ρ → Dn.nx σ' H'
  | .bk ρ => ∀ F' H' σ', Ext F0 B F' H' → StR E B F' H' σ' ρ → Dn.bk σ' H'
  | .ct ρ => ∀ F' H' σ', Ext F0 B F' H' → StR E B F' H' σ' ρ → Dn.ct σ' H'
  | .rt d => ∀ F' H' v, Ext F0 B F' H' → Rep E F' d v → Dn.rt v H'
  | .err c x ρ => ∀ F' H' σ' cls dd, Ext F0 B F' H' → StR E B F' H' σ' ρ → ErrP E F' H' c x cls dd → W cls dd σ' H'
  | .no => False
def Does (E : Am) (W : WX) (t : TS) (p : Ev → Fl) : Prop :=
  ∀ (F0 B F H : Hp) (σ : L2.St) (ρ : Ev) (Dn : Ends), Ext F0 B F H → StR E B F H σ ρ → PostS E W F0 B Dn (p ρ) → t Dn σ H
def XS {I : Type} (X : I → Cx) (E : Am) (W : WX) (st : Stmt) (p : Ev → Fl) : Prop := ∃ t, (∀ i, PS (X i) st t) ∧ Does E W t p
def XSs {I : Type} (X : I → Cx) (E : Am) (W : WX) (st : List Stmt) (p : Ev → Fl) : Prop := ∃ t, (∀ i, PSs (X i) st t) ∧ Does E W t p
def pSeq (p q : Ev → Fl) : Ev → Fl := fun ρ => match p ρ with | .nx ρ1 => q ρ1 | r => r
def pNext : Ev → Fl := .nx
section
variable {I : Type} {X : I → Cx} {E : Am} {W : WX} {k : Nat}
theorem xss_nil : XSs X E W [] pNext := ⟨_, fun _ => pss_nil, fun F0 B F H σ ρ Dn x r post => post F H σ x r⟩
theorem xss_one {s : Stmt} {p : Ev → Fl} (h : XS X E W s p) : XSs X E W [s] p := by
  obtain ⟨t, h1, h2⟩ := h
  exact ⟨t, fun i => pss_one (h1 i), h2⟩
theorem xss_cons {s : Stmt} {rest : List Stmt} {p q : Ev → Fl} (h : XS X E W s p) (h' : XSs X E W rest q) : XSs X E W (s :: rest) (pSeq p q) := by
  obtain ⟨t, h1, h2⟩ := h
  obtain ⟨u, g1, g2⟩ := h'
  refine ⟨_, fun i => pss_cons (h1 i) (g1 i), fun F0 B F H σ ρ Dn x r post => ?_⟩
  refine h2 F0 B F H σ ρ _ x r ?_
  unfold pSeq at post
  cases e : p ρ with
  | nx ρ1 => rw [e] at post; exact fun F' H' σ' x' r' => g2 F0 B F' H' σ' ρ1 Dn x' r' post
  | rt d => rw [e] at post; exact post
  | bk ρ1 => rw [e] at post; exact post
  | ct ρ1 => rw [e] at post; exact post
  | err c z ρ1 => rw [e] at post; exact post
  | no => rw [e] at post; exact post
/-- behind an evaluation -/
def pWith {α : Type} (p : Ev → Rs α) (f : α → Ev → Fl) : Ev → Fl := fun ρ => match p ρ with | .ok a => f a ρ | .err c x => .err c x ρ | .no => .no
theorem Does.eval {α β : Type} {G : Hp → Hp → Hp → α → β → Prop} {t : L2.St → Hp → (β → Hp → Prop) → Prop} {p : Ev → Rs α} {f : α → Ev → Fl} {F0 B F H : Hp} {σ : L2.St} {ρ : Ev} {Dn : Ends} {K : β → Hp → Prop} (h : Evals E W G t p) (x : Ext F0 B F H) (r : StR E B F H σ ρ) (post : PostS E W F0 B Dn (pWith p f ρ))
    (step : ∀ F1 H1 a b, Ext F H F1 H1 → Ext F0 B F1 H1 → StR E B F1 H1 σ ρ → G H F1 H1 a b → PostS E W F0 B Dn (f a ρ) → K b H1) : t σ H K := by
  refine h B F H σ ρ K x.fh x.h r ?_
  unfold pWith at post
  cases e : p ρ with
  | ok a => rw [e] at post; exact fun F1 H1 b x1 g => step F1 H1 a b x1 (x.trans x1) (r.mono x1) g post
  | err c z => rw [e] at post; exact fun F1 H1 cls dd x1 g => post F1 H1 σ cls dd (x.trans x1) (r.mono x1) g
  | no => rw [e] at post; exact post
end
end DL
end

section
set_option linter.all false
set_option maxRecDepth 100000
set_option maxHeartbeats 4000000
namespace DL
open PySem PySem.Spec L2
section
variable {I : Type} {X : I → Cx} {E : Am} {W : WX} {k : Nat}

/-! ## assignments -/
def pSet (i : Nat) (p : Ev → Rs D) : Ev → Fl := pWith p fun d ρ => .nx (ρ.set i (.dat d))
def pSetO (i : Nat) (p : Ev → Rs D) : Ev → Fl := pWith p fun d ρ => .nx (ρ.set i (.own d))
theorem does_set {i : Nat} {t : TE} {p : Ev → Rs D} (h : Evals E W (GS E) t p) : Does E W (tAsg t (gName i)) (pSet i p) := by
  intro F0 B F H σ ρ Dn x r post
  show t σ H _
  exact Does.eval h x r post fun F1 H1 d v x1 x2 r2 g post1 => post1 F1 H1 _ x2 (r2.setD g)
theorem does_setO {i : Nat} {t : TE} {p : Ev → Rs D} (h : Evals E W (GN E) t p) : Does E W (tAsg t (gName i)) (pSetO i p) := by
  intro F0 B F H σ ρ Dn x r post
  show t σ H _
  refine Does.eval h x r post fun F1 H1 d v x1 x2 r2 g post1 => ?_
  obtain ⟨l, ho, rfl, h0, h1, h2, h3⟩ := g
  refine post1 F1 H1 _ x2 (r2.setO h2 h1 (x.h.free h0) h3 fun j e hj _ hs => ?_)
  obtain ⟨l', ho', q1, q2, _⟩ := r.own j e hj
  rw [hs] at q1
  cases q1
  rw [h0] at q2
  cases q2
/-- a name's place -/
structure Nm {I : Type} (X : I → Cx) (i : Nat) (x : Str) : Prop where
  nd : ∀ j, (X j).N.Nodup
  at_ : ∀ j, (X j).N[i]? = some x
  loc : ∀ j, Loc (X j).env.scope x
  fn : ∀ j, (X j).fn x = true ∨ (X j).env.scope.names.lookup x = some .local
theorem xs_set {i : Nat} {x : Str} {e : Expr} {p : Ev → Rs D} {pos pos' : Pos} (n : Nm X i x) (h : XE X E W e p) (hs : ∀ j, swapsWith e (some (.Name x pos')) pos.line (X j).env = pure false := by intro _; rfl) : XS X E W (.Assign [.Name x pos'] e pos) (pSet i p) := by
  obtain ⟨t, h1, h2⟩ := h
  exact ⟨_, fun j => ps_set (n.nd j) (n.at_ j) (n.loc j) (h1 j) (hs j) (n.fn j), does_set h2⟩
theorem xs_setO {i : Nat} {x : Str} {e : Expr} {p : Ev → Rs D} {pos pos' : Pos} (n : Nm X i x) (h : XN X E W e p) (hs : ∀ j, swapsWith e (some (.Name x pos')) pos.line (X j).env = pure false := by intro _; rfl) : XS X E W (.Assign [.Name x pos'] e pos) (pSetO i p) := by
  obtain ⟨t, h1, h2⟩ := h
  exact ⟨_, fun j => ps_set (n.nd j) (n.at_ j) (n.loc j) (h1 j) (hs j) (n.fn j), does_setO h2⟩
/-- name = [.. for ..] -/
theorem lc_ps {i : Nat} {y : Str} {py : Pos} {elt tg iter : Expr} {ifs : List Expr} {scope : Scope} {own : List (Str × Nat)} {pos spos : Pos} {wi : TI} {g : TG} {tt : TT} {te : TE} (c : Ctx X E W k) (n : Nm X i y) (hyl : ∀ j, (X j).env.scope.names.lookup y = some .local)
    (h1 : ∀ i, PI (X i) tg iter wi) (h2 : ∀ j, PG (Blk X scope j) tg g) (h3 : ∀ j, PTs (Blk X scope j) ifs tt) (h4 : ∀ j, PE (Blk X scope j) elt te) (ok : ∀ i, BlkOk (X i).N (X i).env.scope scope own)
    (hsw : ∀ j, swapsWith (.ListComp elt [⟨tg, iter, ifs, 0⟩] scope pos) (some (.Name y py)) spos.line (X j).env = pure true) (hs : ∀ i x, foldedSetIterable iter (X i).env x = pure x := by intro _ _; rfl) :
    ∀ j, PS (X j) (.Assign [.Name y py] (.ListComp elt [⟨tg, iter, ifs, 0⟩] scope pos) spos) (tAsg (tLc wi g tt te (own.map (·.2))) (gName i)) := fun j =>
  ps_setLc (c.calm rfl j) (n.nd j) (n.at_ j) (hyl j) (hsw j) (h1 j) (ok j) (fun s H C cl fp => h2 (j, s, H, C, cl, fp)) (fun s H C cl fp => h3 (j, s, H, C, cl, fp)) (fun s H C cl fp => h4 (j, s, H, C, cl, fp)) (hs j)
theorem xs_setLc {i : Nat} {y : Str} {py : Pos} {elt tg iter : Expr} {ifs : List Expr} {scope : Scope} {own : List (Str × Nat)} {pos spos : Pos} {p : Ev → Rs D} (c : Ctx X E W k) (n : Nm X i y) (hyl : ∀ j, (X j).env.scope.names.lookup y = some .local) (h : XLc X E W elt tg iter ifs scope own p) (ok : ∀ i, BlkOk (X i).N (X i).env.scope scope own)
    (hsw : ∀ j, swapsWith (.ListComp elt [⟨tg, iter, ifs, 0⟩] scope pos) (some (.Name y py)) spos.line (X j).env = pure true) (hs : ∀ i x, foldedSetIterable iter (X i).env x = pure x := by intro _ _; rfl) :
    XS X E W (.Assign [.Name y py] (.ListComp elt [⟨tg, iter, ifs, 0⟩] scope pos) spos) (pSet i p) := by
  obtain ⟨wi, g, tt, te, h1, h2, h3, h4, h5⟩ := h
  exact ⟨_, lc_ps c n hyl h1 h2 h3 h4 ok hsw hs, does_set h5.frz⟩
theorem xs_setLcO {i : Nat} {y : Str} {py : Pos} {elt tg iter : Expr} {ifs : List Expr} {scope : Scope} {own : List (Str × Nat)} {pos spos : Pos} {p : Ev → Rs D} (c : Ctx X E W k) (n : Nm X i y) (hyl : ∀ j, (X j).env.scope.names.lookup y = some .local) (h : XLc X E W elt tg iter ifs scope own p) (ok : ∀ i, BlkOk (X i).N (X i).env.scope scope own)
    (hsw : ∀ j, swapsWith (.ListComp elt [⟨tg, iter, ifs, 0⟩] scope pos) (some (.Name y py)) spos.line (X j).env = pure true) (hs : ∀ i x, foldedSetIterable iter (X i).env x = pure x := by intro _ _; rfl) :
    XS X E W (.Assign [.Name y py] (.ListComp elt [⟨tg, iter, ifs, 0⟩] scope pos) spos) (pSetO i p) := by
  obtain ⟨wi, g, tt, te, h1, h2, h3, h4, h5⟩ := h
  exact ⟨_, lc_ps c n hyl h1 h2 h3 h4 ok hsw hs, does_setO h5⟩
/-- target = e -/
def pAsg (g : D → Ev → Option Ev) (p : Ev → Rs D) : Ev → Fl := pWith p fun d ρ => match g d ρ with | some ρ1 => .nx ρ1 | none => .no
theorem xs_asg {tg e : Expr} {vs : List Nat} {g : D → Ev → Option Ev} {p : Ev → Rs D} {pos : Pos} (h : XE X E W e p) (hg : XG X E tg vs g) (hs : ∀ j, swapsWithSole [tg] e pos.line (X j).env = pure false := by intro _; rfl) (hw : ∀ j, swappedStores [tg] e (X j).env = pure none := by intro _; rfl)
    (h1 : ∀ j, (assignEach [tg] (X j).env).map (·.2) = [assign tg (X j).env] := by intro _; rfl) : XS X E W (.Assign [tg] e pos) (pAsg g p) := by
  obtain ⟨t, t1, t2⟩ := h
  obtain ⟨gg, g1, g2⟩ := hg
  refine ⟨_, fun j => ps_asg (t1 j) (g1 j) (hs j) (hw j) (h1 j), fun F0 B F H σ ρ Dn x r post => ?_⟩
  show t σ H _
  refine Does.eval t2 x r post fun F1 H1 d v x1 x2 r2 g post1 => ?_
  cases e : (‹D → Ev → Option Ev›) d ρ with
  | none => rw [e] at post1; exact post1.elim
  | some ρ1 =>
    rw [e] at post1
    exact g2 B F1 H1 σ ρ d v _ ρ1 x2.fh r2 g e fun σ' r' _ _ => post1 F1 H1 σ' x2 r'
/-- a, b = x, y -/
def pPar (i j : Nat) (q : Ev → Rs (List D)) : Ev → Fl := pWith q fun ds ρ => match ds with | [d, e] => .nx ((ρ.set i (.dat d)).set j (.dat e)) | _ => .no
theorem xs_par {i j : Nat} {x y : Str} {a b : Expr} {q : Ev → Rs (List D)} {px py pt pos : Pos} {kt k2 : Nat} {pt2 : Pos} (c : Ctx X E W k) (nx : Nm X i x) (ny : Nm X j y) (hij : i ≠ j) (lx : ∀ i, (X i).env.scope.names.lookup x = some .local) (ly : ∀ i, (X i).env.scope.names.lookup y = some .local) (h : XA X E W [a, b] q)
    (hw : ∀ i, swappedStores [.Tuple [.Name x px, .Name y py] kt pt] (.Tuple [a, b] k2 pt2) (X i).env = pure (some [x, y]) := by intro _; rfl) (hs : ∀ i, swapsWithSole [.Tuple [.Name x px, .Name y py] kt pt] (.Tuple [a, b] k2 pt2) pos.line (X i).env = pure false := by intro _; rfl) :
    XS X E W (.Assign [.Tuple [.Name x px, .Name y py] kt pt] (.Tuple [a, b] k2 pt2) pos) (pPar i j q) := by
  obtain ⟨t, t1, t2⟩ := h
  refine ⟨_, fun l => ps_par (c.calm rfl l) (nx.nd l) (nx.at_ l) (ny.at_ l) hij (lx l) (ly l) (t1 l) (hw l) (hs l), fun F0 B F H σ ρ Dn x r post => ?_⟩
  show t σ H _
  refine Does.eval t2 x r post fun F1 H1 ds vs x1 x2 r2 g post1 => ?_
  split at post1
  · obtain ⟨v, r', rfl, g1, w, r'', rfl, g2, g3⟩ := g
    cases g3
    exact ⟨v, w, rfl, post1 F1 H1 _ x2 ((r2.setD g1).setD g2)⟩
  · exact post1.elim
/-- name op= e -/
def pAug (f : D → D → Rs D) (i : Nat) (p : Ev → Rs D) : Ev → Fl := fun ρ => match ρ[i]? with
  | some (.dat d0) => pWith p (fun d ρ => match f d0 d with | .ok z => .nx (ρ.set i (.dat z)) | _ => .no) ρ
  | _ => .no
theorem xs_aug {i : Nat} {x : Str} {e : Expr} {op : Operator} {r : R2} {f : D → D → Rs D} {p : Ev → Rs D} {pos pos' : Pos} (n : Nm X i x) (ho : ∀ j, OpR (X j) (inplaceOp op) r) (hf : OpS E r f) (h : XL X E W e p) : XS X E W (.AugAssign (.Name x pos') op e pos) (pAug f i p) := by
  obtain ⟨t, t1, t2⟩ := h
  refine ⟨tAug i t r, fun j => ps_aug (n.nd j) (n.at_ j) (n.loc j) (t1 j) (fun pins s σ H x y v u Q I r1 r2 h => ho j pins s σ H x y v u Q I r1 r2 h) (n.fn j), fun F0 B F H σ ρ Dn x rr post => ?_⟩
  unfold pAug at post
  split at post
  · rename_i d0 e0
    obtain ⟨v0, s1, s2⟩ := rr.dat i d0 e0
    refine ⟨v0, s1, ?_⟩
    refine Does.eval t2 x rr post fun F1 H1 d v x1 x2 r2 g post1 => ?_
    refine hf W F1 H1 σ d0 d v0 v _ x2.fh (.inl (Rep.mono x1.f _ _ s2)) g ?_
    cases ef : f d0 d with
    | ok z =>
      rw [ef] at post1
      exact fun F2 H2 w x3 g3 => post1 F2 H2 _ (x2.trans x3) ((r2.mono x3).setD g3)
    | err c z => rw [ef] at post1; exact post1.elim
    | no => rw [ef] at post1; exact post1.elim
  · exact post.elim
def rIAddA : R2 := fun x y H Q => rI0 (fun i j => .int (i + j)) x y H Q ∨ (∃ i j, x = .str i ∧ y = .str j ∧ i.length + j.length ≤ sizeLine ∧ Q (.str (i ++ j)) H)
def fIAdd : D → D → Rs D
  | .int i, .int j => .ok (.int (i + j))
  | .str x, .str y => if x.length + y.length ≤ sizeLine then .ok (.str (x ++ y)) else .no
  | _, _ => .no
theorem ops_iadd : OpS E rIAddA fIAdd := by
  intro W F H σ dx dy x y Q s h1 h2 post
  unfold fIAdd at post
  split at post
  · exact .inl ⟨_, _, repO_int h1, repO_int h2, ev_ok s post rfl⟩
  · rename_i i j
    by_cases c : i.length + j.length ≤ sizeLine
    · rw [if_pos c] at post
      exact .inr ⟨_, _, repO_str h1, repO_str h2, c, ev_ok s post rfl⟩
    · rw [if_neg c] at post; exact post.elim
  · exact post.elim
theorem xs_iadd {i : Nat} {x : Str} {e : Expr} {p : Ev → Rs D} {pos pos' : Pos} (n : Nm X i x) (h : XL X E W e p) : XS X E W (.AugAssign (.Name x pos') .Add e pos) (pAug fIAdd i p) := xs_aug n (fun _ => iop_add.or iop_add_str) ops_iadd h

/-! ## small statements -/
def pRet (p : Ev → Rs D) : Ev → Fl := pWith p fun d _ => .rt d
theorem xs_ret {e : Expr} {p : Ev → Rs D} {pos : Pos} (h : XE X E W e p) : XS X E W (.Return (some e) pos) (pRet p) := by
  obtain ⟨t, t1, t2⟩ := h
  refine ⟨_, fun j => ps_ret (t1 j), fun F0 B F H σ ρ Dn x r post => ?_⟩
  show t σ H _
  exact Does.eval t2 x r post fun F1 H1 d v x1 x2 r2 g post1 => post1 F1 H1 v x2 g
theorem xs_retN {pos : Pos} : XS X E W (.Return none pos) (fun _ => .rt .non) := ⟨_, fun j => ps_retN, fun F0 B F H σ ρ Dn x r post => post F H _ x rfl⟩
def pDrop (p : Ev → Rs D) : Ev → Fl := pWith p fun _ ρ => .nx ρ
theorem xs_expr {e : Expr} {p : Ev → Rs D} {pos : Pos} (h : XE X E W e p) (hs : ∀ j, swapsWith e none pos.line (X j).env = pure false := by intro _; rfl) : XS X E W (.Expr e pos) (pDrop p) := by
  obtain ⟨t, t1, t2⟩ := h
  refine ⟨_, fun j => ps_expr (t1 j) (hs j), fun F0 B F H σ ρ Dn x r post => ?_⟩
  show t σ H _
  exact Does.eval t2 x r post fun F1 H1 d v x1 x2 r2 g post1 => post1 F1 H1 σ x2 r2
theorem xs_pass {pos : Pos} : XS X E W (.Pass pos) pNext := ⟨_, fun j => ps_pass, fun F0 B F H σ ρ Dn x r post => post F H σ x r⟩
theorem xs_break {pos : Pos} : XS X E W (.Break pos) Fl.bk := ⟨_, fun j => ps_break, fun F0 B F H σ ρ Dn x r post => post F H σ x r⟩
theorem xs_continue {pos : Pos} : XS X E W (.Continue pos) Fl.ct := ⟨_, fun j => ps_continue, fun F0 B F H σ ρ Dn x r post => post F H σ x r⟩
def pIfS (c : Ev → Rs Bool) (p q : Ev → Fl) : Ev → Fl := pWith c fun b ρ => if b = true then p ρ else q ρ
theorem xs_if {e : Expr} {a b : List Stmt} {pc : Ev → Rs Bool} {p q : Ev → Fl} {pos : Pos} (hc : XT X E W e pc) (ha : XSs X E W a p) (hb : XSs X E W b q) : XS X E W (.If e a b pos) (pIfS pc p q) := by
  obtain ⟨t, t1, t2⟩ := hc
  obtain ⟨ta, a1, a2⟩ := ha
  obtain ⟨tb, b1, b2⟩ := hb
  refine ⟨_, fun j => ps_if (t1 j) (a1 j) (b1 j), fun F0 B F H σ ρ Dn x r post => ?_⟩
  show t σ H _
  refine Does.eval t2 x r post fun F1 H1 bb b' x1 x2 r2 g post1 => ?_
  cases g
  cases bb with
  | true => rw [if_pos rfl]; exact a2 F0 B F1 H1 σ ρ Dn x2 r2 post1
  | false => rw [if_neg Bool.false_ne_true]; exact b2 F0 B F1 H1 σ ρ Dn x2 r2 post1
/-- ghost: an own object is handed out from here on -/
def frzE (i : Nat) (ρ : Ev) : Ev := match ρ[i]? with | some (.own d) => ρ.set i (.dat d) | _ => ρ
theorem does_frz {i : Nat} {t : TS} {p : Ev → Fl} (h : Does E W t p) : Does E W t (fun ρ => p (frzE i ρ)) := by
  intro F0 B F H σ ρ Dn x r post
  have post : PostS E W F0 B Dn (p (frzE i ρ)) := post
  unfold frzE at post
  split at post
  · rename_i d e
    obtain ⟨l, ho, h1, h2, h3, h4⟩ := r.freeze e
    exact h F0 B _ H σ _ Dn (x.frz h1 h2 h3) h4 post
  · exact h F0 B F H σ ρ Dn x r post
theorem xss_frz (i : Nat) {sts : List Stmt} {p : Ev → Fl} (h : XSs X E W sts p) : XSs X E W sts (fun ρ => p (frzE i ρ)) := by
  obtain ⟨t, t1, t2⟩ := h
  exact ⟨t, t1, does_frz t2⟩
/-- xs.append(e), xs an own list -/
def pApp (i : Nat) (p : Ev → Rs D) : Ev → Fl := fun ρ => match ρ[i]? with
  | some (.own (.lst ds)) => pWith p (fun d ρ => if ds.length < sizeLine then .nx (ρ.set i (.own (.lst (ds ++ [d])))) else .no) ρ
  | _ => .no
theorem xs_app {i : Nat} {o e : Expr} {p : Ev → Rs D} {apos cpos pos : Pos} {cm : Bool} (c : CtxB X E W k cm) (ho : ∀ j, PE (X j) o (tVar i)) (h : XE X E W e p) (hbase : ∀ j, attributeBase o "append" (X j).env (eval o (X j).env) = eval o (X j).env := by intro _; rfl)
    (hfew : ∀ j, ((backTo cpos (starEach (e :: []) (X j).env)).all (fun x => !x.1) && (backToKw cpos (keywordEach [] (X j).env)).all (fun x => x.1.isSome) && decide ((e :: ([] : List Expr)).length + ([] : List Keyword).length + (if ([] : List Keyword).isEmpty then 0 else 1) < 30)) = true := by intro _; rfl)
    (hline : (apos.endLine == cpos.line) = true := by rfl) (hs : ∀ j, starEach (e :: []) (X j).env = (false, eval e (X j).env) :: starEach [] (X j).env := by intro _; rfl) (hplain : ∀ j, (backTo cpos (starEach [] (X j).env)).any (·.1) = false := by intro _; rfl)
    (hsw : ∀ j, swapsWith (.Call (.Attribute o "append" apos) [e] [] cpos) none pos.line (X j).env = pure false := by intro _; rfl) : XS X E W (.Expr (.Call (.Attribute o "append" apos) [e] [] cpos) pos) (pApp i p) := by
  obtain ⟨t, t1, t2⟩ := h
  refine ⟨tDrop (tBM E.K "list" rAppend (tVar i) (tCons t tNil)), fun j => by rw [← c.K j]; exact ps_expr (pe_bm PySem.F.plainAttrs_list PySem.F.slot_list_append PySem.F.type_list_append mt_append (ho j) (pa_cons (t1 j) pa_nil (hs j)) (hbase j) (hfew j) hline (hs j) (hplain j)) (hsw j), fun F0 B F H σ ρ Dn x r post => ?_⟩
  unfold pApp at post
  split at post
  · rename_i ds q
    obtain ⟨l, ho', s1, s2, s3, s4, vs, rfl, s5⟩ := r.own i _ q
    refine ⟨_, s1, .inl ⟨rfl, vs, SqL.of s2⟩, ?_⟩
    show t σ H _
    refine Does.eval t2 x r post fun F1 H1 d' v x1 x2 r2 g post1 => ?_
    by_cases cz : ds.length < sizeLine
    · rw [if_pos cz] at post1
      have hl1 : H1 l = some (.lst vs) := x1.h _ _ s2
      have hf1 : F1 l = none := by rw [x1.keep s2 (fun _ z => by cases z)]; exact s3
      refine ⟨l, vs, v, rfl, rfl, hl1, by rw [← s5.len]; exact cz, ?_⟩
      exact post1 F1 _ σ (x2.wr hf1 s4) (r2.write q s1 hf1 s4 ⟨_, rfl, (RepL.mono x1.f _ _ s5).append (.cons g rfl)⟩)
    · rw [if_neg cz] at post1; exact post1.elim
  · exact post.elim
end
end DL
end

section
set_option linter.all false
set_option maxRecDepth 100000
set_option maxHeartbeats 4000000
namespace DL
open PySem PySem.Spec L2
section
variable {I : Type} {X : I → Cx} {E : Am} {W : WX} {k : Nat}

theorem Ext.re {F0 B F H : Hp} (x : Ext F0 B F H) : Ext F B F H := ⟨Same.refl F, x.h, x.fh, fun _ _ => .inl rfl⟩
theorem Ext.comp {F0 B F H F' H' : Hp} (x : Ext F0 B F H) (y : Ext F B F' H') : Ext F0 B F' H' := ⟨x.f.trans y.f, y.h, y.fh, fun l hl => by
    rcases y.nf l hl with q | q
    · rcases x.nf l hl with p | p
      · exact .inl (q.trans p)
      · exact .inr p
    · exact .inr q⟩
theorem PostS.re {E : Am} {W : WX} {F0 B F H : Hp} {Dn : Ends} {r : Fl} (x : Ext F0 B F H) (h : PostS E W F0 B Dn r) : PostS E W F B Dn r := by
  cases r with
  | nx ρ => exact fun F' H' σ' y r' => h F' H' σ' (x.comp y) r'
  | bk ρ => exact fun F' H' σ' y r' => h F' H' σ' (x.comp y) r'
  | ct ρ => exact fun F' H' σ' y r' => h F' H' σ' (x.comp y) r'
  | rt d => exact fun F' H' v y r' => h F' H' v (x.comp y) r'
  | err c z ρ => exact fun F' H' σ' cls dd y r' e => h F' H' σ' cls dd (x.comp y) r' e
  | no => exact h
/-! ## for -/
def forL (g : D → Ev → Option Ev) (body : Ev → Fl) : List D → Ev → Fl
  | [], ρ => .nx ρ
  | d :: ds, ρ => match g d ρ with
    | none => .no
    | some ρ1 => match body ρ1 with
      | .nx ρ2 => forL g body ds ρ2
      | .ct ρ2 => forL g body ds ρ2
      | .bk ρ2 => .nx ρ2
      | .rt d => .rt d
      | .err c x ρ2 => .err c x ρ2
      | .no => .no
def pFor (ps : Ev → Rs (List D)) (g : D → Ev → Option Ev) (body : Ev → Fl) : Ev → Fl := pWith ps fun ds ρ => forL g body ds ρ
theorem xs_for {tg iter : Expr} {body : List Stmt} {pos : Pos} {ps : Ev → Rs (List D)} {vs : List Nat} {g : D → Ev → Option Ev} {pb : Ev → Fl} (c : Ctx X E W k) (hi : XI X E W tg iter ps) (hg : XG X E tg vs g) (hb : XSs X E W body pb)
    (hs : ∀ i x, foldedSetIterable iter (X i).env x = pure x := by intro _ _; rfl) : XS X E W (.For tg iter body [] pos) (pFor ps g pb) := by
  obtain ⟨wi, i1, i2⟩ := hi
  obtain ⟨gg, g1, g2⟩ := hg
  obtain ⟨tb, b1, b2⟩ := hb
  refine ⟨_, fun j => ps_for (c.po j) (c.calm rfl j) (i1 j) (g1 j) (b1 j) (hs j), fun F0 B F H σ ρ Dn x r post => ?_⟩
  show wi σ H _
  refine Does.eval i2 x r post fun F1 H1 ds J x1 x2 r2 src post1 => ?_
  obtain ⟨G, Y, wk, hG, hY⟩ := src
  refine for_it wk (Pv := fun i σ' H' => ∃ F' ρ', Ext F0 B F' H' ∧ Same F1 F' ∧ StR E B F' H' σ' ρ' ∧ PostS E W F0 B Dn (forL g pb (ds.drop i) ρ'))
    ⟨F1, ρ, x2, Same.refl F1, r2, by rw [List.drop_zero]; exact post1⟩ (fun i σ' H' _ ⟨F', _, x', s', _⟩ => hG H' (s'.trans x'.fh)) ?_ ?_
  · rintro i y σ' H2 H3 hin ⟨F2, ρ2, x3, s3, r3, p3⟩ yy
    have hd : ds[i]? = some ds[i] := List.getElem?_eq_getElem hin
    obtain ⟨F3, x4, rx⟩ := hY i H2 y H3 F2 _ hd s3 x3.fh yy
    have x34 := x3.trans x4
    rw [List.drop_eq_getElem_cons hin] at p3
    unfold forL at p3
    split at p3
    · exact p3.elim
    · rename_i ρ3 eg
      refine g2 B F3 H3 σ' ρ2 ds[i] y _ ρ3 x4.fh (r3.mono x4) rx eg fun σ4 r4 _ _ => ?_
      refine b2 F3 B F3 H3 σ4 ρ3 _ x34.re r4 ?_
      cases eb : pb ρ3 with
      | nx ρ5 =>
        rw [eb] at p3
        exact fun F5 H5 σ5 x5 r5 => ⟨F5, ρ5, x34.comp x5, s3.trans (x4.f.trans x5.f), r5, p3⟩
      | ct ρ5 =>
        rw [eb] at p3
        exact fun F5 H5 σ5 x5 r5 => ⟨F5, ρ5, x34.comp x5, s3.trans (x4.f.trans x5.f), r5, p3⟩
      | bk ρ5 => rw [eb] at p3; exact fun F5 H5 σ5 x5 r5 => p3 F5 H5 σ5 (x34.comp x5) r5
      | rt d => rw [eb] at p3; exact fun F5 H5 v x5 r5 => p3 F5 H5 v (x34.comp x5) r5
      | err cc z ρ5 => rw [eb] at p3; exact fun F5 H5 σ5 cls dd x5 r5 e5 => p3 F5 H5 σ5 cls dd (x34.comp x5) r5 e5
      | no => rw [eb] at p3; exact p3
  · rintro σ' H2 ⟨F2, ρ2, x3, s3, r3, p3⟩
    rw [List.drop_length] at p3
    exact p3 F2 H2 σ' x3 r3

/-! ## while -/
def whL (c : Ev → Rs Bool) (body : Ev → Fl) : Nat → Ev → Fl
  | 0, _ => .no
  | n + 1, ρ => match c ρ with
    | .ok true => (match body ρ with
      | .nx ρ2 => whL c body n ρ2
      | .ct ρ2 => whL c body n ρ2
      | .bk ρ2 => .nx ρ2
      | .rt d => .rt d
      | .err c x ρ2 => .err c x ρ2
      | .no => .no)
    | .ok false => .nx ρ
    | .err c x => .err c x ρ
    | .no => .no
def pWhile (fuel : Ev → Nat) (c : Ev → Rs Bool) (body : Ev → Fl) : Ev → Fl := fun ρ => whL c body (fuel ρ) ρ
theorem xs_while {e : Expr} {body : List Stmt} {pos : Pos} {pc : Ev → Rs Bool} {pb : Ev → Fl} (fuel : Ev → Nat) {cm : Bool} (c : CtxB X E W k cm) (hc : XT X E W e pc) (hb : XSs X E W body pb) : XS X E W (.While e body [] pos) (pWhile fuel pc pb) := by
  obtain ⟨tc, c1, c2⟩ := hc
  obtain ⟨tb, b1, b2⟩ := hb
  refine ⟨_, fun j => ps_while (c.po j) (c1 j) (b1 j), fun F0 B F H σ ρ Dn x r post => ?_⟩
  refine ⟨fun m σ' H' => ∃ F' ρ', Ext F0 B F' H' ∧ StR E B F' H' σ' ρ' ∧ PostS E W F0 B Dn (whL pc pb m ρ'), ⟨fuel ρ, F, ρ, x, r, post⟩, ?_⟩
  rintro m σ' H' ⟨F', ρ', x', r', p'⟩
  cases m with
  | zero => exact (show False from p').elim
  | succ m =>
    unfold whL at p'
    show tc σ' H' _
    refine c2 B F' H' σ' ρ' _ x'.fh x'.h r' ?_
    cases ec : pc ρ' with
    | no => rw [ec] at p'; exact p'
    | err cc z => rw [ec] at p'; exact fun F1 H1 cls dd x1 g => p' F1 H1 σ' cls dd (x'.trans x1) (r'.mono x1) g
    | ok b =>
      rw [ec] at p'
      intro F1 H1 b' x1 g
      cases g
      cases b with
      | false => rw [if_neg Bool.false_ne_true]; exact p' F1 H1 σ' (x'.trans x1) (r'.mono x1)
      | true =>
        rw [if_pos rfl]
        refine ⟨fun σ2 H2 => ∃ F2 ρ2, Ext F0 B F2 H2 ∧ StR E B F2 H2 σ2 ρ2 ∧ PostS E W F0 B Dn (whL pc pb m ρ2), fun σ2 H2 w => ⟨m, Nat.lt_succ_self m, w⟩, ?_⟩
        refine b2 F0 B F1 H1 σ' ρ' _ (x'.trans x1) (r'.mono x1) ?_
        simp only at p'
        cases eb : pb ρ' with
        | nx ρ5 => rw [eb] at p'; exact fun F5 H5 σ5 x5 r5 => ⟨F5, ρ5, x5, r5, p'⟩
        | ct ρ5 => rw [eb] at p'; exact fun F5 H5 σ5 x5 r5 => ⟨F5, ρ5, x5, r5, p'⟩
        | bk ρ5 => rw [eb] at p'; exact p'
        | rt d => rw [eb] at p'; exact p'
        | err cc z ρ5 => rw [eb] at p'; exact p'
        | no => rw [eb] at p'; exact p'

/-! ## raise, try -/
/-- raise C('..'), a class of the program without an __init__ -/
theorem xs_raise {x m : Str} {j : Nat} {C : Addr} {p1 p2 p3 pos : Pos} {bmB : List Value} {B0 newId initId : String} (c : Ctx X E W k) (F : PySem.ExcBaseFacts B0 newId initId bmB) (hE : E.cl x = C) (q : PySem.W.excIn E.K C bmB newId = true) (gC : ∀ i, (X i).mg x = some (.ref C)) (kC : PySem.W.keepIn E.K (.ref C) = true) (r : ∀ i, Raises (X i) (.ref C)) (hg : ∀ i, Gl (X i) x) (hdb : (x == ("__debug__" : Str)) = false := by decide) :
    XS X E W (.Raise (some (.Call (.Name x p1) [.Constant (.str m) j p2] [] p3)) none pos) (fun ρ => .err x none ρ) := by
  refine ⟨_, fun i => ps_raise (c.calm rfl i) (c.tk i) (pmk_own F (by rw [c.K i]; exact q) (gC i) (by rw [c.K i]; exact kC) (r i) (hg i) hdb), fun F0 B F H σ ρ Dn xx rr post => ?_⟩
  exact post F H σ (.ref C) none xx rr ⟨by rw [hE], rfl⟩
end
end DL
end

section
set_option linter.all false
set_option maxRecDepth 100000
set_option maxHeartbeats 4000000
namespace DL
open PySem PySem.Spec L2

/-! ## defs and their promises -/
abbrev WF (Ex : XK) : WX := fun cls dd _ H => Ex cls dd H
/-- the def computes f -/
def spF (E : Am) (n : Nat) (f : List D → Rs D) : Sp := fun vs H Q Ex => ∃ F ds, Same F H ∧ RepL E F ds vs ∧ ds.length = n ∧ Post E (WF Ex) [] F H (GS E H) Q (f ds)
theorem spF_len {E : Am} {n : Nat} {f : List D → Rs D} {vs : List V} {H : Hp} {Q : VK} {Ex : XK} (h : spF E n f vs H Q Ex) : vs.length = n := by
  obtain ⟨F, ds, _, r, hl, _⟩ := h
  rw [← r.len]; exact hl
def runF (m : Nat) (p : Ev → Fl) (ds : List D) : Rs D := match p (ds.map .dat ++ List.replicate (m - ds.length) .unb) with
  | .nx _ => .ok .non | .rt d => .ok d | .err c x _ => .err c x | _ => .no
theorem start_str {E : Am} {B F H : Hp} {N : List Str} {ds : List D} {vs : List V} (h : RepL E F ds vs) : StR E B F H (L2.start N vs) (ds.map .dat ++ List.replicate (N.length - ds.length) .unb) := by
  have hl := h.len
  have noown : ∀ (i : Nat) (d : D), (ds.map EV.dat ++ List.replicate (N.length - ds.length) EV.unb)[i]? ≠ some (.own d) := fun i d e => by
    have hm := List.mem_of_getElem? e
    rcases List.mem_append.mp hm with z | z
    · obtain ⟨y, _, q⟩ := List.mem_map.mp z; cases q
    · have := List.eq_of_mem_replicate z; cases this
  have nopin : ∀ (i : Nat) (v : V), (ds.map EV.dat ++ List.replicate (N.length - ds.length) EV.unb)[i]? ≠ some (.pin v) := fun i d e => by
    have hm := List.mem_of_getElem? e
    rcases List.mem_append.mp hm with z | z
    · obtain ⟨y, _, q⟩ := List.mem_map.mp z; cases q
    · have := List.eq_of_mem_replicate z; cases this
  refine ⟨by unfold L2.start; simp [hl], fun i d e => ?_, fun i d e => absurd e (noown i d), fun i j d d' l _ e => absurd e (noown i d), fun i v e => absurd e (nopin i v)⟩
  by_cases hi : i < ds.length
  · rw [List.getElem?_append_left (by simpa using hi), List.getElem?_map] at e
    cases q : ds[i]? with
    | none => rw [q] at e; cases e
    | some x =>
      rw [q] at e; cases e
      obtain ⟨v, e1, e2⟩ := h.get q
      refine ⟨v, ?_, e2⟩
      unfold L2.start
      rw [List.getElem?_append_left (by simp; omega), List.getElem?_map, e1]; rfl
  · rw [List.getElem?_append_right (by simpa using hi)] at e
    have := List.eq_of_mem_replicate (List.mem_of_getElem? e)
    cases this
section
variable {P : Program} {w : World} {E : Am} {mg : Str → Option Value} {base : Heap}
/-- the context of a def's body -/
abbrev Bd (P : Program) (w : World) (E : Am) (mg : Str → Option Value) (base : Heap) (N : List Str) (qual : Str) (sc : Scope) (f : Addr) (cdv : Value) (A : Around) (outer : List Env) (s : Shared) (H : Hp) (Ex : XK) : Unit → Cx := fun _ => cxOf (L2.CX P w) P w E.K mg base N qual sc f cdv A outer s H Ex
theorem bd_ctx {N : List Str} {qual : Str} {sc : Scope} {f : Addr} {cdv : Value} {A : Around} {outer : List Env} {s : Shared} {H : Hp} {Ex : XK} {k : Nat} (hr : Room k (A.deeper (PyProof.Rows.envOfC qual sc s.heap.objs.size f cdv))) : Ctx (Bd P w E mg base N qual sc f cdv A outer s H Ex) E (WF Ex) k :=
  ⟨fun _ => rfl, fun _ _ => rfl, fun _ _ => hr, fun _ => takes_of rfl rfl rfl rfl, fun _ => passes_of rfl, fun _ => by
    have := hr.un
    show (A.deeper _).units + 200 < cLine
    omega⟩
theorem fn_ok {x qual : Str} {st : Stmt} {f : Addr} {fd : FuncData} {N ps : List Str} {k : Nat} {p : Ev → Fl} (F : Fun E.K x qual st f fd) (S : FnScope N ps (defScope st))
    (body : ∀ (cdv : Value) (A : Around) (outer : List Env) (s : Shared) (H : Hp) (Ex : XK), Room k (A.deeper (PyProof.Rows.envOfC qual (defScope st) s.heap.objs.size f cdv)) → XSs (Bd P w E mg base N qual (defScope st) f cdv A outer s H Ex) E (WF Ex) (defBody st) p) :
    FnOk P w E.K mg base (L2.CX P w) (k + 1) f fd ps (spF E ps.length (runF N.length p)) := by
  refine F.okX S (fun vs H Q Ex h => spF_len h) (fun cdv A outer s H vs Q Ex hr h => ?_)
  obtain ⟨t, t1, t2⟩ := body cdv A outer s H Ex hr
  refine ⟨t, t1 (), ?_⟩
  obtain ⟨F0, ds, sm, r, hl, post⟩ := h
  refine t2 F0 H F0 H _ _ _ (Ext.refl sm) (start_str (N := N) r) ?_
  unfold runF at post
  cases e : p (ds.map EV.dat ++ List.replicate (N.length - ds.length) EV.unb) with
  | nx ρ => rw [e] at post; exact fun F' H' σ' x' _ => post F' H' .non x' rfl
  | rt d => rw [e] at post; exact fun F' H' v x' g => post F' H' v x' g
  | err c z ρ => rw [e] at post; exact fun F' H' σ' cls dd x' _ g => post F' H' cls dd x' g
  | bk ρ => rw [e] at post; exact post.elim
  | ct ρ => rw [e] at post; exact post.elim
  | no => rw [e] at post; exact post.elim
end
section
variable {I : Type} {X : I → Cx} {E : Am} {W : WX} {k : Nat}
/-- f(a, ..): the arguments, then the defaults -/
def pFn (f : List D → Rs D) (dds : List D) (q : Ev → Rs (List D)) : Ev → Rs D := fun ρ => (q ρ).bind fun ds => f (ds ++ dds)
theorem post_fn {E : Am} {W : WX} {σ : L2.St} {F H : Hp} {Q : VK} {r : Rs D} (h : Post E W σ F H (GS E H) Q r) : Post E (WF (WE W σ)) [] F H (GS E H) Q r := by
  cases r with
  | ok a => exact h
  | err c x => exact h
  | no => exact h
theorem evals_fn {n : Nat} {f : List D → Rs D} {dds : List D} {dvs : List V} {t : TA} {q : Ev → Rs (List D)} (hd : ∀ F, RepL E F dds dvs) (hn : ∀ ds r, f ds = r → r = .no ∨ ds.length = n) (h : Evals E W (GA E) t q) : Evals E W (GS E) (tCallSD (spF E n f) dvs (WE W) t) (pFn f dds q) := by
  intro B F H σ ρ Q s sb r post
  show t σ H _
  refine Evals.seq h s sb r post fun F1 H1 ds vs e1 x1 sb1 r1 gg post1 => ?_
  rcases hn (ds ++ dds) _ rfl with z | z
  · rw [z] at post1; exact post1.elim
  · exact ⟨F1, ds ++ dds, x1.fh, gg.append (hd F1), z, post_fn post1⟩
/-- f wants n arguments -/
def arity (n : Nat) (f : List D → Rs D) : List D → Rs D := fun ds => if ds.length = n then f ds else .no
theorem arity_n {n : Nat} {f : List D → Rs D} : ∀ ds r, arity n f ds = r → r = .no ∨ ds.length = n := fun ds r e => by
  unfold arity at e
  by_cases c : ds.length = n
  · exact .inr c
  · rw [if_neg c] at e; exact .inl e.symm
theorem sp_arity {n : Nat} {f : List D → Rs D} {vs : List V} {H : Hp} {Q : VK} {Ex : XK} (h : spF E n (arity n f) vs H Q Ex) : spF E n f vs H Q Ex := by
  obtain ⟨F, ds, a, b, c, d⟩ := h
  refine ⟨F, ds, a, b, c, ?_⟩
  unfold arity at d
  rw [if_pos c] at d
  exact d
theorem xe_call {j n : Nat} {f : Addr} {fd : FuncData} {ps : List Str} {fn : List D → Rs D} {dds : List D} {dvs : List V} {ds : List Value} {x : Str} {p pos : Pos} {e : Expr} {es : List Expr} {q : Ev → Rs (List D)} (c : Ctx X E W k)
    (G : ∀ i, FnOk (X i).prog (X i).w (X i).K (X i).mg (X i).base (L2.CX (X i).prog (X i).w) j f fd ps (spF E n fn)) (hj : j ≤ k) (hg : ∀ i, Gl (X i) x) (hm : ∀ i, (X i).mg x = some (.ref f)) (hk : PySem.W.keepIn E.K (.ref f) = true) (hb : Binds E.K fd ps ds) (hd : Vals dvs ds) (hD : ∀ F, RepL E F dds dvs) (ha : XA X E W (e :: es) q)
    (hdb : (x == ("__debug__" : Str)) = false := by decide) (he : ∀ i, starEach (e :: es) (X i).env = (false, eval e (X i).env) :: starEach es (X i).env := by intro _; rfl) (hpl : ∀ i, (backTo pos (starEach es (X i).env)).any (·.1) = false := by intro _; rfl) : XE X E W (.Call (.Name x p) (e :: es) [] pos) (pFn (arity n fn) dds q) := by
  obtain ⟨t, a1, a2⟩ := ha
  refine ⟨_, fun i => pe_callSD ((G i).imp fun vs H Q Ex h => sp_arity h) ((c.room rfl i).mono hj) (hg i) (hm i) (by rw [c.K i]; exact hk) (by rw [c.K i]; exact hb) hd (fun σ => passAt (c.tk i) σ) (a1 i) hdb (he i) (hpl i), evals_fn hD arity_n a2⟩
/-- f() -/
theorem xe_call0 {j n : Nat} {f : Addr} {fd : FuncData} {ps : List Str} {fn : List D → Rs D} {x : Str} {p pos : Pos} (c : Ctx X E W0 k)
    (G : ∀ i, FnOk (X i).prog (X i).w (X i).K (X i).mg (X i).base (L2.CX (X i).prog (X i).w) j f fd ps (spF E n fn)) (hj : j ≤ k) (hg : ∀ i, Gl (X i) x) (hm : ∀ i, (X i).mg x = some (.ref f)) (hk : PySem.W.keepIn E.K (.ref f) = true) (hb : Binds E.K fd ps [])
    (hdb : (x == ("__debug__" : Str)) = false := by decide) : XE X E W0 (.Call (.Name x p) [] [] pos) (pFn (arity n fn) [] pNil) := by
  refine ⟨tCall (spF E n (arity n fn)) [] E0 tNil, fun i => pe_call0 ((G i).imp fun vs H Q Ex h => sp_arity h) ((c.room rfl i).mono hj) (hg i) (hm i) (by rw [c.K i]; exact hk) (by rw [c.K i]; exact hb) .nil passL hdb, ?_⟩
  have h := evals_fn (E := E) (W := W0) (n := n) (f := arity n fn) (dds := []) (dvs := []) (t := tNil) (q := pNil) (fun F => rfl) arity_n (fun B F H σ ρ Q s sb r post => ev_ok s post rfl)
  exact h

/-! ## methods -/
def tMethSD (C : Addr) (m : Str) (sp : Sp) (Ex : L2.St → XK) (ta : TE) (t : TA) : TE := fun σ H Q => ta σ H fun x H1 => ∃ a dx fs, x = .ref a ∧ H1 a = some (.ins C dx fs) ∧ fs.lookup m = none ∧ t σ H1 fun vs H2 => sp (x :: (vs ++ [])) H2 Q (Ex σ)
theorem pe_methSD {X : Cx} {CX : CXT} {k : Nat} {f C : Addr} {fd : FuncData} {ps : List Str} {sp : Sp} {Ex : L2.St → XK} {m : Str} {pos apos : Pos} {e o : Expr} {es : List Expr} {ta : TE} {t : TA} {pl : Sem Bool} (he : PE X o ta) (c : Cls X.K C) (hm : Meth X.K C m f) (F : FnOk X.prog X.w X.K X.mg X.base CX k f fd ps sp) (hr : Room k X.A) (hb : Binds X.K fd ps []) (hx : ∀ σ, PassesAt CX X σ (Ex σ)) (ha : PA X (e :: es) t)
    (hst : starEach (e :: es) X.env = (false, eval e X.env) :: starEach es X.env := by rfl) (hpl : (backTo pos (starEach es X.env)).any (·.1) = false := by rfl)
    (ht : eval (.Call (.Attribute o m apos) (e :: es) [] pos) X.env = (do
      let ov ← eval o X.env
      standAt apos.atName
      let (f, first) ← holding [ov] (getMethod ov m pl)
      callWith pos f first (backTo pos (starEach (e :: es) X.env)) (backToKw pos (keywordEach [] X.env))) := by rfl) :
    PE X (.Call (.Attribute o m apos) (e :: es) [] pos) (tMethSD C m sp Ex ta t) := by
  refine ⟨fun pins s σ H Q I h => ?_⟩
  refine PySem.W.methodCall_KW (pl := pl) (thn (he.run pins s σ H _ I h) fun u s1 ⟨x, H1, I1, rx, a, dx, fs, ex, ea, l, q⟩ => ?_) ht
  subst ex
  obtain rfl : u = Value.ref a := rx
  refine getmeth_ok I1 ea c hm l ?_
  refine PySem.W.callWith_K (first := [.ref a]) (h₀ := X.base) I.ok.mod.kin hm.kp (thn (ha.run pos pins s1 σ H1 _ I1 q) fun us s2 ⟨vs, H2, I2, r, q2⟩ => ⟨I2.kIn, ?_⟩) hst hpl
  exact run_fnSD (us := .ref a :: us) (vs := .ref a :: vs) F hr hb .nil (hx σ) I2 (.cons rfl r) q2
theorem pe_methSD0 {X : Cx} {CX : CXT} {k : Nat} {f C : Addr} {fd : FuncData} {ps : List Str} {sp : Sp} {Ex : L2.St → XK} {m : Str} {pos apos : Pos} {o : Expr} {ta : TE} {pl : Sem Bool} (he : PE X o ta) (c : Cls X.K C) (hm : Meth X.K C m f) (F : FnOk X.prog X.w X.K X.mg X.base CX k f fd ps sp) (hr : Room k X.A) (hb : Binds X.K fd ps []) (hx : ∀ σ, PassesAt CX X σ (Ex σ))
    (ht : eval (.Call (.Attribute o m apos) [] [] pos) X.env = (do
      let ov ← eval o X.env
      standAt apos.atName
      let (f, first) ← holding [ov] (getMethod ov m pl)
      callWith pos f first (backTo pos (starEach [] X.env)) (backToKw pos (keywordEach [] X.env))) := by rfl) :
    PE X (.Call (.Attribute o m apos) [] [] pos) (tMethSD C m sp Ex ta tNil) := by
  refine ⟨fun pins s σ H Q I h => ?_⟩
  refine PySem.W.methodCall_KW (pl := pl) (thn (he.run pins s σ H _ I h) fun u s1 ⟨x, H1, I1, rx, a, dx, fs, ex, ea, l, q⟩ => ?_) ht
  subst ex
  obtain rfl : u = Value.ref a := rx
  refine getmeth_ok I1 ea c hm l ?_
  exact PySem.W.callWith_K0 (first := [.ref a]) I1.kIn hm.kp (run_fnSD (us := [.ref a]) (vs := [.ref a]) F hr hb .nil (hx σ) I1 (.cons rfl .nil) q)
/-- o.m(e, ..), o a datum of the class C -/
def pMeth (C m : Str) (f : List D → Rs D) (p : Ev → Rs D) (q : Ev → Rs (List D)) : Ev → Rs D := fun ρ => (p ρ).bind fun d => match d with
  | .ins C' ns fs => if C' = C ∧ m ∉ ns then (q ρ).bind fun ds => f (.ins C' ns fs :: ds) else .no
  | _ => .no
theorem evals_meth {n : Nat} {C m : Str} {f : List D → Rs D} {ta : TE} {t : TA} {p : Ev → Rs D} {q : Ev → Rs (List D)} (hn : ∀ ds r, f ds = r → r = .no ∨ ds.length = n) (hp : Evals E W (GS E) ta p) (h : Evals E W (GA E) t q) : Evals E W (GS E) (tMethSD (E.cl C) m (spF E n f) (WE W) ta t) (pMeth C m f p q) := by
  intro B F H σ ρ Q s sb r post
  show ta σ H _
  refine Evals.seq hp s sb r post fun F1 H1 d v e1 x1 sb1 r1 gg post1 => ?_
  cases d <;> first | exact post1.elim | skip
  rename_i C' ns fs
  have pz : Post E W σ F1 H1 (GS E H) Q (if C' = C ∧ m ∉ ns then (q ρ).bind fun ds => f (.ins C' ns fs :: ds) else .no) := post1
  by_cases cc : C' = C ∧ m ∉ ns
  · rw [if_pos cc] at pz
    clear post1
    obtain ⟨rfl, cm⟩ := cc
    obtain ⟨a, dx, vs, rfl, q1, q2, q3⟩ := repO_ins x1.fh (.inl gg)
    refine ⟨a, dx, _, rfl, q1, look_none cm, ?_⟩
    show t σ H1 _
    refine Evals.seq h x1.fh sb1 r1 pz fun F2 H2 ds us e2 x2 sb2 r2 g2 post2 => ?_
    rcases hn (.ins C' ns fs :: ds) _ rfl with z | z
    · rw [z] at post2; exact post2.elim
    · refine ⟨F2, .ins C' ns fs :: ds, x2.fh, .cons (Rep.mono x2.f _ _ gg) ?_, z, post_fn post2⟩
      rw [List.append_nil]; exact g2
  · rw [if_neg cc] at pz; exact pz.elim
theorem xe_meth {j n : Nat} {f : Addr} {fd : FuncData} {ps : List Str} {fn : List D → Rs D} {C m : Str} {fs : List Str} {pos apos : Pos} {e o : Expr} {es : List Expr} {p : Ev → Rs D} {q : Ev → Rs (List D)} {pl : I → Sem Bool} (c : Ctx X E W k) (hc : ClsOk E C fs) (hme : Meth E.K (E.cl C) m f)
    (G : ∀ i, FnOk (X i).prog (X i).w (X i).K (X i).mg (X i).base (L2.CX (X i).prog (X i).w) j f fd ps (spF E n fn)) (hj : j ≤ k) (hb : Binds E.K fd ps []) (ho : XE X E W o p) (ha : XA X E W (e :: es) q)
    (hst : ∀ i, starEach (e :: es) (X i).env = (false, eval e (X i).env) :: starEach es (X i).env := by intro _; rfl) (hpl : ∀ i, (backTo pos (starEach es (X i).env)).any (·.1) = false := by intro _; rfl)
    (ht : ∀ i, eval (.Call (.Attribute o m apos) (e :: es) [] pos) (X i).env = (do
      let ov ← eval o (X i).env
      standAt apos.atName
      let (f, first) ← holding [ov] (getMethod ov m (pl i))
      callWith pos f first (backTo pos (starEach (e :: es) (X i).env)) (backToKw pos (keywordEach [] (X i).env))) := by intro _; rfl) : XE X E W (.Call (.Attribute o m apos) (e :: es) [] pos) (pMeth C m (arity n fn) p q) := by
  obtain ⟨ta, o1, o2⟩ := ho
  obtain ⟨t, a1, a2⟩ := ha
  exact ⟨_, fun i => pe_methSD (o1 i) (by rw [c.K i]; exact hc.cl) (by rw [c.K i]; exact hme) ((G i).imp fun vs H Q Ex h => sp_arity h) ((c.room rfl i).mono hj) (by rw [c.K i]; exact hb) (fun σ => passAt (c.tk i) σ) (a1 i) (hst i) (hpl i) (ht i), evals_meth arity_n o2 a2⟩
theorem xe_meth0 {j n : Nat} {f : Addr} {fd : FuncData} {ps : List Str} {fn : List D → Rs D} {C m : Str} {fs : List Str} {pos apos : Pos} {o : Expr} {p : Ev → Rs D} {pl : I → Sem Bool} (c : Ctx X E W k) (hc : ClsOk E C fs) (hme : Meth E.K (E.cl C) m f)
    (G : ∀ i, FnOk (X i).prog (X i).w (X i).K (X i).mg (X i).base (L2.CX (X i).prog (X i).w) j f fd ps (spF E n fn)) (hj : j ≤ k) (hb : Binds E.K fd ps []) (ho : XE X E W o p)
    (ht : ∀ i, eval (.Call (.Attribute o m apos) [] [] pos) (X i).env = (do
      let ov ← eval o (X i).env
      standAt apos.atName
      let (f, first) ← holding [ov] (getMethod ov m (pl i))
      callWith pos f first (backTo pos (starEach [] (X i).env)) (backToKw pos (keywordEach [] (X i).env))) := by intro _; rfl) : XE X E W (.Call (.Attribute o m apos) [] [] pos) (pMeth C m (arity n fn) p pNil) := by
  obtain ⟨ta, o1, o2⟩ := ho
  exact ⟨_, fun i => pe_methSD0 (o1 i) (by rw [c.K i]; exact hc.cl) (by rw [c.K i]; exact hme) ((G i).imp fun vs H Q Ex h => sp_arity h) ((c.room rfl i).mono hj) (by rw [c.K i]; exact hb) (fun σ => passAt (c.tk i) σ) (ht i), evals_meth arity_n o2 (fun B F H σ ρ Q s sb r post => ev_ok s post rfl)⟩
end
end DL
end

section
set_option linter.all false
set_option maxRecDepth 100000
set_option maxHeartbeats 4000000
namespace DL
open PySem PySem.Spec L2

/-! ## data of the written part -/
mutual
def repB (K : PySem.W.Frag) : D → Value → Bool
  | .non, .none => true
  | .bl b, .bool c => b == c
  | .int i, .int j _ => decide (i = j)
  | .str x, .str y _ => decide (x = y)
  | .tup ds, .ref a => (match K.lookup a with
    | some ⟨.type c, _, .seq its _, _⟩ => decide (c = "tuple") && decide (its.size ≤ sizeLine) && repBL K ds its.toList
    | _ => false)
  | .kl ds, .ref a => (match K.lookup a with
    | some ⟨.type c, none, .seq its _, _⟩ => decide (c = "list") && decide (its.size ≤ sizeLine) && repBL K ds its.toList
    | _ => false)
  | _, _ => false
def repBL (K : PySem.W.Frag) : List D → List Value → Bool
  | [], [] => true
  | d :: ds, u :: us => repB K d u && repBL K ds us
  | _, _ => false
end
section
variable {E : Am}
mutual
theorem repB_ok : ∀ (d : D) (u : Value), repB E.K d u = true → ∃ v, RelV v u ∧ ∀ F, Rep E F d v
  | .non, u, h => by
    cases u <;> first | (simp [repB] at h; done) | exact ⟨.non, rfl, fun _ => rfl⟩
  | .bl b, u, h => by
    cases u <;> first | (simp [repB] at h; done) | skip
    rename_i c
    have e : b = c := by simpa [repB] using h
    subst e
    exact ⟨.bl b, rfl, fun _ => rfl⟩
  | .int i, u, h => by
    cases u <;> first | (simp [repB] at h; done) | skip
    rename_i c t
    have e : i = c := by simpa [repB] using h
    subst e
    exact ⟨.int i, ⟨t, rfl⟩, fun _ => rfl⟩
  | .str i, u, h => by
    cases u <;> first | (simp [repB] at h; done) | skip
    rename_i c t
    have e : i = c := by simpa [repB] using h
    subst e
    exact ⟨.str i, ⟨t, rfl⟩, fun _ => rfl⟩
  | .tup ds, u, h => by
    cases u <;> first | (simp [repB] at h; done) | skip
    rename_i a
    unfold repB at h
    split at h
    · rename_i c _ its n _ q
      obtain ⟨h1, h3⟩ := Bool.and_eq_true_iff.mp h
      obtain ⟨h1, h2⟩ := Bool.and_eq_true_iff.mp h1
      obtain ⟨vs, r1, r2⟩ := repBL_ok ds its.toList h3
      refine ⟨.ref a, rfl, fun F => ⟨a, vs, rfl, .inr ⟨_, its, n, q, congrArg Value.type (of_decide_eq_true h1), rfl, of_decide_eq_true h2, r1⟩, r2 F⟩⟩
    · cases h
  | .kl ds, u, h => by
    cases u <;> first | (simp [repB] at h; done) | skip
    rename_i a
    unfold repB at h
    split at h
    · rename_i c its n _ q
      obtain ⟨h1, h3⟩ := Bool.and_eq_true_iff.mp h
      obtain ⟨h1, h2⟩ := Bool.and_eq_true_iff.mp h1
      obtain ⟨vs, r1, r2⟩ := repBL_ok ds its.toList h3
      refine ⟨.ref a, rfl, fun F => ⟨a, vs, rfl, .inr ⟨_, its, n, q, congrArg Value.type (of_decide_eq_true h1), rfl, rfl, of_decide_eq_true h2, r1⟩, r2 F⟩⟩
    · cases h
  | .lst _, u, h => by cases u <;> simp [repB] at h
  | .ins _ _ _, u, h => by cases u <;> simp [repB] at h
  | .dk _ _, u, h => by cases u <;> simp [repB] at h
  | .dt _ _, u, h => by cases u <;> simp [repB] at h
theorem repBL_ok : ∀ (ds : List D) (us : List Value), repBL E.K ds us = true → ∃ vs, Vals vs us ∧ ∀ F, RepL E F ds vs
  | [], [], _ => ⟨[], .nil, fun _ => rfl⟩
  | [], _ :: _, h => by simp [repBL] at h
  | _ :: _, [], h => by simp [repBL] at h
  | d :: ds, u :: us, h => by
    have h' : (repB E.K d u && repBL E.K ds us) = true := by simpa [repBL] using h
    obtain ⟨h1, h2⟩ := Bool.and_eq_true_iff.mp h'
    obtain ⟨v, r1, r2⟩ := repB_ok d u h1
    obtain ⟨vs, q1, q2⟩ := repBL_ok ds us h2
    exact ⟨v :: vs, .cons r1 q1, fun F => .cons (r2 F) (q2 F)⟩
end
/-- the module's name x is the datum d -/
def conB (x : Str) (d : D) (K : PySem.W.Frag) : Bool := match PySem.W.nsIn K mainGlobals x with
  | some (some u) => repB K d u
  | _ => false
/-- the module's name x is the built-in id -/
def bltB (x : Str) (id : String) (K : PySem.W.Frag) : Bool := match PySem.W.nsIn K mainGlobals x with
  | some (some (.builtin j)) => decide (j = id)
  | _ => false
/-- the object at p is the datum d -/
def adrB (p : PySem.W.Frag → Addr) (d : D) (K : PySem.W.Frag) : Bool := repB K d (.ref (p K))
theorem con_ok {h : Heap} {mg : Str → Option Value} {x : Str} {d : D} (X : E.K.In h) (G : h.Ns mainGlobals mg) (c : conB x d E.K = true) : ∃ u v, mg x = some u ∧ RelV v u ∧ ∀ F, Rep E F d v := by
  unfold conB at c
  split at c
  · rename_i u q
    obtain ⟨v, r1, r2⟩ := repB_ok d u c
    exact ⟨u, v, PySem.W.mg_of X G q, r1, r2⟩
  · cases c
theorem blt_ok {h : Heap} {mg : Str → Option Value} {x : Str} {id : String} (X : E.K.In h) (G : h.Ns mainGlobals mg) (c : bltB x id E.K = true) : mg x = some (.builtin id) := by
  unfold bltB at c
  split at c
  · rename_i u q
    have e : u = id := of_decide_eq_true c
    subst e
    exact PySem.W.mg_of X G q
  · cases c
theorem adr_ok {p : PySem.W.Frag → Addr} {d : D} (c : adrB p d E.K = true) : ∀ F, Rep E F d (.ref (p E.K)) := by
  obtain ⟨v, r1, r2⟩ := repB_ok d _ c
  cases v <;> first | (obtain ⟨_, q⟩ := r1; cases q; done) | (cases r1; done) | skip
  rename_i a
  cases r1
  exact r2
/-- a constant of the module -/
structure Con (mg : Str → Option Value) (E : Am) (x : Str) (d : D) : Prop where
  ex : ∃ u v, mg x = some u ∧ RelV v u ∧ ∀ F, Rep E F d v
theorem xe_con {I : Type} {X : I → Cx} {W : WX} {x : Str} {d : D} {pos : Pos} {mg : Str → Option Value} (h : Con mg E x d) (hm : ∀ i, (X i).mg x = mg x) (hg : ∀ i, Gl (X i) x) (hd : (x == ("__debug__" : Str)) = false := by decide) : XE X E W (.Name x pos) (pC d) := by
  obtain ⟨u, v, h1, h2, h3⟩ := h.ex
  exact xe_c (fun i => pe_glob (hg i) ((hm i).trans h1) h2 hd) h3
end
/-! ## the facts by names -/
open He in
def obsE (fa : List Fa) (ex : List (PySem.W.Frag → Bool)) (fn : List DefD) (K : PySem.W.Frag) : AlD := ((fa.all fun f => f.ok K) && ((ex.all fun f => f K) && fn.all fun d => d.ok K), fn.map fun d => fnW K d.at_)
def SaysE (fa : List He.Fa) (ex : List (PySem.W.Frag → Bool)) (fn : List He.DefD) (K : PySem.W.Frag) : Prop := obsE fa ex fn K = He.valD fn
def obsEG (n : Nat) (fa : List He.Fa) (ex : List (PySem.W.Frag → Bool)) (fn : List He.DefD) (g : Addr → Option Obj) : He.AlD := obsE fa ex fn (He.frG g (He.asD g n))
def hookE (n : Nat) (fa : List He.Fa) (ex : List (PySem.W.Frag → Bool)) (fn : List He.DefD) : PySem.W.Hook where
  α := He.AlD
  obs := fun s => obsEG n fa ex fn s.heap.get?
  val := fun _ => He.valD fn
  says := fun _ h => ∃ K : PySem.W.Frag, K.In h ∧ SaysE fa ex fn K
  of := fun _ _ e => ⟨_, He.frG_in, e⟩
  keeps := fun _ _ _ ⟨K, hK, c⟩ k => ⟨K, PySem.W.Frag.In.keeps hK k, c⟩
theorem obsEG_eq {n : Nat} {fa : List He.Fa} {ex : List (PySem.W.Frag → Bool)} {fn : List He.DefD} {g : Addr → Option Obj} {s : Shared} (h : ∀ a, g a = s.heap.get? a) : obsEG n fa ex fn g = (hookE n fa ex fn).obs s := by
  have e : g = s.heap.get? := funext h
  rw [e] <;> rfl
section
variable {fa : List He.Fa} {ex : List (PySem.W.Frag → Bool)} {fn : List He.DefD} {K : PySem.W.Frag}
theorem SaysE.both (c : SaysE fa ex fn K) : ((fa.all fun f => f.ok K) && ((ex.all fun f => f K) && fn.all fun d => d.ok K)) = true := congrArg (fun z : He.AlD => z.1) c
theorem SaysE.fact (c : SaysE fa ex fn K) (i : Nat) {f : He.Fa} (h : fa[i]? = some f := by rfl) : f.ok K = true :=
  List.all_eq_true.mp (Bool.and_eq_true_iff.mp c.both).1 f (List.mem_of_getElem? h)
theorem SaysE.ext (c : SaysE fa ex fn K) (i : Nat) {f : PySem.W.Frag → Bool} (h : ex[i]? = some f := by rfl) : f K = true :=
  List.all_eq_true.mp (Bool.and_eq_true_iff.mp (Bool.and_eq_true_iff.mp c.both).2).1 f (List.mem_of_getElem? h)
theorem SaysE.def_ (c : SaysE fa ex fn K) (i : Nat) {d : He.DefD} (h : fn[i]? = some d := by rfl) : ∃ fd, FunD K d.name d.qual d.params d.body d.scope (d.dvs K) (d.kws K) (He.fAd K d.at_) fd := by
  have c2 := (Bool.and_eq_true_iff.mp (Bool.and_eq_true_iff.mp c.both).2).2
  have e : fn.map (fun d => He.fnW K d.at_) = fn.map He.DefD.val := congrArg (fun z : He.AlD => z.2) c
  have e2 : (fn.map fun d => He.fnW K d.at_)[i]? = (fn.map He.DefD.val)[i]? := by rw [e]
  rw [List.getElem?_map, List.getElem?_map, h] at e2
  exact He.DefD.funD (Option.some.inj e2) (List.all_eq_true.mp c2 d (List.mem_of_getElem? h))
end
/-! ## a def by its row -/
section
variable {P : Program} {w : World} {E : Am} {mg : Str → Option Value} {base : Heap}
theorem fn_okD {x qual : Str} {params : Arguments} {body : List Stmt} {sc : Scope} {dvs : List V} {kws : List (Str × V)} {f : Addr} {fd : FuncData} {N ps : List Str} {k : Nat} {p : Ev → Fl} (F : FunD E.K x qual params body sc dvs kws f fd) (S : FnScope N ps sc)
    (hb : ∀ (cdv : Value) (A : Around) (outer : List Env) (s : Shared) (H : Hp) (Ex : XK), Room k (A.deeper (PyProof.Rows.envOfC qual sc s.heap.objs.size f cdv)) → XSs (Bd P w E mg base N qual sc f cdv A outer s H Ex) E (WF Ex) body p) :
    FnOk P w E.K mg base (L2.CX P w) (k + 1) f fd ps (spF E ps.length (runF N.length p)) := by
  refine F.ok S (fun vs H Q Ex h => spF_len h) (fun cdv A outer s H vs Q Ex hr h => ?_)
  obtain ⟨t, t1, t2⟩ := hb cdv A outer s H Ex hr
  refine ⟨t, t1 (), ?_⟩
  obtain ⟨F0, ds, sm, r, hl, post⟩ := h
  refine t2 F0 H F0 H _ _ _ (Ext.refl sm) (start_str (N := N) r) ?_
  unfold runF at post
  cases e : p (ds.map EV.dat ++ List.replicate (N.length - ds.length) EV.unb) with
  | nx ρ => rw [e] at post; exact fun F' H' σ' x' _ => post F' H' .non x' rfl
  | rt d => rw [e] at post; exact fun F' H' v x' g => post F' H' v x' g
  | err c z ρ => rw [e] at post; exact fun F' H' σ' cls dd x' _ g => post F' H' cls dd x' g
  | bk ρ => rw [e] at post; exact post.elim
  | ct ρ => rw [e] at post; exact post.elim
  | no => rw [e] at post; exact post.elim
theorem law_sp {E : Am} {f : List D → Rs D} (h : ∀ ns : List Int, ns.length ≤ 63 → f [.kl (ns.map .int)] = .ok (.bl true)) (H : Hp) (a : Addr) (ns : List Int) (hl : ns.length ≤ 63) (hS : SqL E.K H a (ns.map V.int)) : spF E 1 f [.ref a] H (fun v _ => v = .bl true) fun _ _ _ => False := by
  have hr : ∀ ns : List Int, RepL E H (ns.map D.int) (ns.map V.int) := fun ns => by
    induction ns with
    | nil => exact rfl
    | cons n ns ih => exact .cons rfl ih
  refine ⟨H, [.kl (ns.map .int)], Same.refl H, .cons ⟨a, _, rfl, hS, hr ns⟩ rfl, rfl, ?_⟩
  rw [h ns hl]
  exact fun F' H' v _ g => g
theorem law_cx {P : Program} {w : World} (H : Hp) (s : Shared) (e : Value) (s' : Shared) : L2.CX P w [] H s (fun _ _ _ => False) e s' → False := by
  rintro ⟨_, _, _, _, _, _, _, _, _, _, _, _, z⟩
  exact z
end
end DL
end

section
set_option linter.all false
set_option maxRecDepth 100000
set_option maxHeartbeats 4000000
namespace DL
open PySem PySem.Spec L2
variable {I : Type} {X : I → Cx} {E : Am} {W : WX} {k : Nat}

/-! ## slices of any kind, strict -/
def fSl (d : D) (lo hi : Option Int) : Rs D := match itemsL d with
  | some ds => .ok (.lst (cutD ds lo hi))
  | none => fSlS d lo hi
def rSl3 (K : PySem.W.Frag) : V → Option Int → Option Int → Hp → VK → Prop := fun x lo hi H Q => rSlL K x lo hi H Q ∨ (rSlS x lo hi H Q ∨ rSlT K x lo hi H Q)
theorem xe_slice {e : Expr} {lo hi : Option Expr} {pos p2 : Pos} {p : Ev → Rs D} {l h : Ev → Rs (Option Int)} {cm : Bool} (c : CtxB X E W k cm) (he : XL X E W e p) (hl : XO X E W lo l) (hh : XO X E W hi h) : XE X E W (.Subscript e (.Slice lo hi none p2) pos) (pSl fSl p l h) := by
  obtain ⟨t, h1, h2⟩ := he
  obtain ⟨tl, l1, l2⟩ := hl
  obtain ⟨th, u1, u2⟩ := hh
  refine ⟨tSl (rSl3 E.K) t tl th, fun i => by rw [← c.K i]; exact pe_slice (sl_list.or (sl_str.or sl_tup)) (h1 i) (l1 i) (u1 i), ?_⟩
  intro B F H σ ρ Q s sb r post
  show t σ H _
  refine Evals.seq h2 s sb r post fun F1 H1 d v e1 x1 sb1 r1 gg post1 => ?_
  show tl σ H1 _
  refine Evals.seq l2 x1.fh sb1 r1 post1 fun F2 H2 o o' e2 x2 sb2 r2 g2 post2 => ?_
  cases g2
  show th σ H2 _
  refine Evals.seq u2 x2.fh sb2 r2 post2 fun F3 H3 o2 o2' e3 x3 sb3 r3 g3 post3 => ?_
  cases g3
  have gg := (gg.mono x2).mono x3
  unfold fSl at post3
  split at post3
  · rename_i ds ed
    obtain ⟨a, vs, rfl, q1, q2⟩ := repO_list x3.fh ed gg
    exact .inl ⟨a, vs, rfl, q1, fun p hp => post3 _ _ _ (Ext.new x3.fh hp) (gs_newL x3.fh hp (repL_cut q2 _ _))⟩
  · clear post1 post2
    right
    cases d with
    | str z =>
      have post3 : Post E W σ F3 H3 (GS E H3) Q (if z.length ≤ sizeLine then .ok (.str (cutS z o o2)) else .no) := post3
      by_cases c : z.length ≤ sizeLine
      · rw [if_pos c] at post3
        exact .inl ⟨z, repO_str gg, c, ev_ok x3.fh post3 rfl⟩
      · rw [if_neg c] at post3; exact post3.elim
    | tup ds =>
      have post3 : Post E W σ F3 H3 (GS E H3) Q (if HT.sIx ds.length 0 o = 0 ∧ HT.sIx ds.length ds.length o2 = ds.length then .no else .ok (.tup (cutD ds o o2))) := post3
      by_cases c : HT.sIx ds.length 0 o = 0 ∧ HT.sIx ds.length ds.length o2 = ds.length
      · rw [if_pos c] at post3; exact post3.elim
      · rw [if_neg c] at post3
        obtain ⟨a, vs, rfl, q1, q2⟩ := repO_tup gg
        refine .inr ⟨a, vs, rfl, sqT_mono x3.fh q1, by rw [← q2.len]; exact c, fun p hp => post3 _ _ _ (Ext.new x3.fh hp) (gs_newT x3.fh hp (repL_cut q2 _ _))⟩
    | _ => exact post3.elim

/-! ## isinstance(x, T) -/
def tyN : D → String
  | .non => "NoneType" | .bl _ => "bool" | .int _ => "int" | .str _ => "str" | .tup _ => "tuple" | .lst _ => "list" | .kl _ => "list" | .dk _ _ => "dict" | .dt _ _ => "dict" | .ins _ _ _ => "object"
def isiB (a b : String) : Bool := a == b || (a == "bool" && b == "int")
def isiOk (a b : String) : Bool := ["NoneType", "bool", "int", "str", "tuple", "list", "dict"].contains a && ["bool", "int", "str", "tuple", "list", "dict"].contains b
theorem kit_all : (["NoneType", "bool", "int", "str", "tuple", "list", "dict"].all fun a => ["bool", "int", "str", "tuple", "list", "dict"].all fun b => decide (kitB a b = some (isiB a b))) = true := by decide +kernel
theorem kit_is {a b : String} (h : isiOk a b = true) : kitB a b = some (isiB a b) := by
  obtain ⟨h1, h2⟩ := Bool.and_eq_true_iff.mp h
  have := List.all_eq_true.mp (List.all_eq_true.mp kit_all a (List.contains_iff_mem.mp h1)) b (List.contains_iff_mem.mp h2)
  exact of_decide_eq_true this
theorem tyx_of {F H : Hp} (s : Same F H) {d : D} {v : V} (hd : ∀ C ns fs, d ≠ .ins C ns fs) (h : RepO E F H d v) : TyX E.K H v (.type (tyN d)) := by
  cases d with
  | non => cases repO_non h; exact .base .non
  | bl b => cases repO_bl h; exact .base (.bl _)
  | int b => cases repO_int h; exact .base (.int _)
  | str b => cases repO_str h; exact .base (.str _)
  | tup ds =>
    obtain ⟨a, vs, rfl, h2, _⟩ := repO_tup h
    rcases sqT_mono s h2 with (h2 | ⟨o, h2⟩) | ⟨o, its, n, h2, h3, _⟩
    · exact .base (.tup h2)
    · exact .fTuple h2
    · exact .kTuple h2 h3
  | lst ds =>
    obtain ⟨a, vs, rfl, h2, _⟩ := repO_lstH s h
    exact .base (.lst h2)
  | kl ds =>
    rcases h with ⟨a, vs, rfl, h2, _⟩ | ⟨_, _, _, _, q⟩
    · rcases sqL_mono s h2 with (h2 | ⟨o, h2⟩) | ⟨o, its, n, h2, h3, _⟩
      · exact .base (.lst h2)
      · exact .base (.frz h2)
      · exact .kList h2 h3
    · exact q.elim
  | dk ks ds =>
    rcases h with ⟨a, vs, rfl, q2, _⟩ | ⟨l, ho, rfl, q2, vs, q3, _⟩
    · exact .base (.dK (s _ _ q2))
    · subst q3; exact .base (.dK q2)
  | dt ks ds =>
    rcases h with ⟨a, vs, rfl, q2, _⟩ | ⟨l, ho, rfl, q2, vs, q3, _⟩
    · exact .base (.dT (s _ _ q2))
    · subst q3; exact .base (.dT q2)
  | ins C ns fs => exact absurd rfl (hd C ns fs)
def pIsi (T : String) (p : Ev → Rs D) : Ev → Rs D := fun ρ => (p ρ).bind fun d => if isiOk (tyN d) T then .ok (.bl (isiB (tyN d) T)) else .no
theorem evals_isi {T : String} {ta : TE} {p : Ev → Rs D} (h : Evals E W (GL E) ta p) : Evals E W (GS E) (tCB (rIsi E.K) (tCons ta (tCons (tC (.ty T)) tNil))) (pIsi T p) := by
  intro B F H σ ρ Q s sb r post
  show ta σ H _
  refine Evals.seq h s sb r post fun F1 H1 d v e1 x1 sb1 r1 gg post1 => ?_
  by_cases c : isiOk (tyN d) T = true
  · rw [if_pos c] at post1
    have nd : ∀ C ns fs, d ≠ .ins C ns fs := fun C ns fs e => by subst e; simp [isiOk, tyN] at c
    exact ⟨v, .ty T, _, _, isiB (tyN d) T, rfl, .ty T, tyx_of x1.fh nd gg, kit_ty (kit_is c), ev_ok x1.fh post1 rfl⟩
  · rw [if_neg c] at post1; exact post1.elim
theorem xe_isi {a b : Expr} {T : String} {p pos : Pos} {pa : Ev → Rs D} {cm : Bool} (c : CtxB X E W k cm) (hg : ∀ i, Gl (X i) "isinstance") (hm : ∀ i, (X i).mg "isinstance" = none) (ha : XL X E W a pa) (hb : ∀ i, PE (X i) b (tC (.ty T)))
    (h1 : ∀ i, starEach [a, b] (X i).env = (false, eval a (X i).env) :: starEach [b] (X i).env := by intro _; rfl) (h2 : ∀ i, starEach [b] (X i).env = (false, eval b (X i).env) :: starEach [] (X i).env := by intro _; rfl) (hpl : ∀ i, (backTo pos (starEach [b] (X i).env)).any (·.1) = false := by intro _; rfl) : XE X E W (.Call (.Name "isinstance" p) [a, b] [] pos) (pIsi T pa) := by
  obtain ⟨t, a1, a2⟩ := ha
  exact ⟨tCB (rIsi E.K) (tCons t (tCons (tC (.ty T)) tNil)), fun i => by rw [← c.K i]; exact pe_callB call_isi (hg i) (hm i) (by decide +kernel) (pa_cons (a1 i) (pa_cons (hb i) pa_nil (h2 i)) (h1 i)) (he := h1 i) (hpl := hpl i), evals_isi a2⟩
theorem pe_ty {Y : Cx} {x : Str} {T : String} {pos : Pos} (hg : Gl Y x) (hm : Y.mg x = none) (hv : bootBuiltins x = some (.type T)) (hn : x ≠ "__name__" := by decide) (hd : (x == ("__debug__" : Str)) = false := by decide) : PE Y (.Name x pos) (tC (.ty T)) := pe_bltn hg hm hv rfl hn hd
/-! isinstance(x, (T1, T2, ..)) -/
def isiAny (a : String) : List String → Bool
  | [] => false
  | b :: r => isiB a b || isiAny a r
theorem kitAny_is {K : PySem.W.Frag} {a : String} : ∀ {Ts : List String}, (Ts.all fun b => isiOk a b) = true → PySem.W.kitAny K (.type a) (Ts.map Value.type) = some (isiAny a Ts)
  | [], _ => rfl
  | b :: r, h => by
    rw [List.all_cons, Bool.and_eq_true] at h
    refine kitAny_cons (kit_ty (kit_is h.1)) (fun e => ?_) (fun e => ?_)
    · rw [kitAny_is h.2]
      show some (isiAny a r) = some (isiB a b || isiAny a r)
      rw [e, Bool.false_or]
    · show (isiB a b || isiAny a r) = true
      rw [e, Bool.true_or]
def pIsiT (Ts : List String) (p : Ev → Rs D) : Ev → Rs D := fun ρ => (p ρ).bind fun d => if Ts.all fun b => isiOk (tyN d) b then .ok (.bl (isiAny (tyN d) Ts)) else .no
inductive Tys {I : Type} (X : I → Cx) : List Expr → List String → Prop
  | nil : Tys X [] []
  | cons {e : Expr} {T : String} {es : List Expr} {Ts : List String} (h : ∀ i, PE (X i) e (tC (.ty T))) (hs : ∀ i, starEach (e :: es) (X i).env = (false, eval e (X i).env) :: starEach es (X i).env) (t : Tys X es Ts) : Tys X (e :: es) (T :: Ts)
def tTys : List String → TA
  | [] => tNil
  | T :: Ts => tCons (tC (.ty T)) (tTys Ts)
theorem Tys.pa {es : List Expr} {Ts : List String} (h : Tys X es Ts) : ∀ i, PA (X i) es (tTys Ts) := by
  induction h with
  | nil => exact fun _ => pa_nil
  | cons h hs t ih => exact fun i => pa_cons (h i) (ih i) (hs i)
theorem tTys_run {σ : L2.St} {H : Hp} {Q : List V → Hp → Prop} : ∀ {Ts : List String}, Q (Ts.map V.ty) H → tTys Ts σ H Q
  | [], h => h
  | T :: Ts, h => by
    show tTys Ts σ H fun vs H1 => Q (.ty T :: vs) H1
    exact tTys_run (Q := fun vs H1 => Q (.ty T :: vs) H1) h
theorem cls_tys : ∀ Ts : List String, Paired ClsV (Ts.map V.ty) (Ts.map Value.type)
  | [] => .nil
  | T :: Ts => .cons (.ty T) (cls_tys Ts)
theorem xe_isiT {a : Expr} {es : List Expr} {Ts : List String} {kk : Nat} {p tp pos : Pos} {pa : Ev → Rs D} {cm : Bool} (c : CtxB X E W k cm) (hg : ∀ i, Gl (X i) "isinstance") (hm : ∀ i, (X i).mg "isinstance" = none) (ha : XL X E W a pa) (hb : Tys X es Ts) (hT : Ts ≠ []) (hz : Ts.length ≤ 100)
    (h1 : ∀ i, starEach [a, .Tuple es kk tp] (X i).env = (false, eval a (X i).env) :: starEach [.Tuple es kk tp] (X i).env := by intro _; rfl) (h2 : ∀ i, starEach [.Tuple es kk tp] (X i).env = (false, eval (.Tuple es kk tp) (X i).env) :: starEach [] (X i).env := by intro _; rfl) (hpl : ∀ i, (backTo pos (starEach [.Tuple es kk tp] (X i).env)).any (·.1) = false := by intro _; rfl) : XE X E W (.Call (.Name "isinstance" p) [a, .Tuple es kk tp] [] pos) (pIsiT Ts pa) := by
  obtain ⟨t, a1, a2⟩ := ha
  refine ⟨tCB (rIsiT E.K) (tCons t (tCons (tTup (tTys Ts)) tNil)), fun i => by rw [← c.K i]; exact pe_callB call_isiT (hg i) (hm i) (by decide +kernel) (pa_cons (a1 i) (pa_cons (pe_tup (hb.pa i)) pa_nil (h2 i)) (h1 i)) (he := h1 i) (hpl := hpl i), fun B F H σ ρ Q s sb r post => ?_⟩
  show t σ H _
  refine Evals.seq a2 s sb r post fun F1 H1 d v e1 x1 sb1 r1 gg post1 => ?_
  by_cases c : (Ts.all fun b => isiOk (tyN d) b) = true
  · rw [if_pos c] at post1
    show tTys Ts σ H1 _
    refine tTys_run ⟨by rw [List.length_map]; exact Nat.le_trans hz (by decide), fun p hp => ?_⟩
    have nd : Ts ≠ [] → ∀ C ns fs, d ≠ .ins C ns fs := fun h0 C ns fs e => by
      subst e
      cases Ts with
      | nil => exact h0 rfl
      | cons T _ =>
        rw [List.all_cons, Bool.and_eq_true] at c
        have c1 := c.1
        simp [isiOk, tyN] at c1
    exact ⟨v, p, _, _, _, isiAny (tyN d) Ts, rfl, upd_same, cls_tys Ts, tyx_of (same_upd x1.fh hp) (nd hT) (gg.mono (Ext.newH x1.fh hp)), kitAny_is c, post1 F1 _ _ (Ext.newH x1.fh hp) rfl⟩
  · rw [if_neg c] at post1; exact post1.elim
end DL
namespace DL
open PySem PySem.Spec L2
/-- a def of the text computes fn -/
structure FnX (P : Program) (w : World) (E : Am) (mg : Str → Option Value) (base : Heap) (k : Nat) (f : Addr) (ps : List Str) (fn : List D → Rs D) : Prop where
  ex : ∃ fd, FnOk P w E.K mg base (L2.CX P w) k f fd ps (spF E ps.length fn) ∧ Binds E.K fd ps [] ∧ PySem.W.keepIn E.K (.ref f) = true
theorem fnX_mk {P : Program} {w : World} {E : Am} {mg : Str → Option Value} {base : Heap} {x qual : Str} {params : Arguments} {body : List Stmt} {sc : Scope} {dvs : List V} {kws : List (Str × V)} {f : Addr} {fd : FuncData} {N ps : List Str} {k m : Nat} {p : Ev → Fl} {fn : List D → Rs D} (F : FunD E.K x qual params body sc dvs kws f fd) (S : FnScope N ps sc) (hm : N.length = m) (hfn : fn = runF m p)
    (B : Binds E.K fd ps []) (hb : ∀ (cdv : Value) (A : Around) (outer : List Env) (s : Shared) (H : Hp) (Ex : XK), Room k (A.deeper (PyProof.Rows.envOfC qual sc s.heap.objs.size f cdv)) → XSs (Bd P w E mg base N qual sc f cdv A outer s H Ex) E (WF Ex) body p) : FnX P w E mg base (k + 1) f ps fn := by
  subst hm hfn
  exact ⟨fd, fn_okD F S hb, B, F.kp⟩
theorem fnOk_mk {P : Program} {w : World} {E : Am} {mg : Str → Option Value} {base : Heap} {x qual : Str} {params : Arguments} {body : List Stmt} {sc : Scope} {dvs : List V} {kws : List (Str × V)} {f : Addr} {fd : FuncData} {N ps : List Str} {k m n : Nat} {p : Ev → Fl} {fn : List D → Rs D} (F : FunD E.K x qual params body sc dvs kws f fd) (S : FnScope N ps sc) (hm : N.length = m) (hn : ps.length = n) (hfn : fn = runF m p)
    (hb : ∀ (cdv : Value) (A : Around) (outer : List Env) (s : Shared) (H : Hp) (Ex : XK), Room k (A.deeper (PyProof.Rows.envOfC qual sc s.heap.objs.size f cdv)) → XSs (Bd P w E mg base N qual sc f cdv A outer s H Ex) E (WF Ex) body p) : FnOk P w E.K mg base (L2.CX P w) (k + 1) f fd ps (spF E n fn) := by
  subst hm hn hfn
  exact fn_okD F S hb
theorem fnOk_nox {P : Program} {w : World} {K : PySem.W.Frag} {mg : Str → Option Value} {base : Heap} {k : Nat} {f : Addr} {fd : FuncData} {ps : List Str} {sp : Sp} (F : FnOk P w K mg base (L2.CX P w) k f fd ps sp) : FnOk P w K mg base CX0 k f fd ps (fun vs H Q _ => sp vs H Q fun _ _ _ => False) :=
  ⟨fun vs H Q Ex h => F.len vs H Q _ h, fun A outer s H args us vs Q Ex hr e0 hb r h => PySem.codeAny_mono (F.run A outer s H args us vs Q _ hr e0 hb r h) fun res s' hq => by
    cases res with
    | error e =>
      obtain ⟨_, _, _, _, _, _, _, _, _, _, _, _, z⟩ := hq
      exact z.elim
    | ok fl => cases fl <;> exact hq⟩
abbrev mkE (K : PySem.W.Frag) : Am := ⟨K, He.ga K⟩
def pB (p : Ev → Rs D) : Ev → Rs Bool := fun ρ => (p ρ).bind toB
def pTr (p : Ev → Rs D) : Ev → Rs Bool := fun ρ => (p ρ).bind tru
def pFrz (i : Nat) (p : Ev → Fl) : Ev → Fl := fun ρ => p (frzE i ρ)
def fuelI (i : Nat) (ρ : Ev) : Nat := match ρ[i]? with | some (.dat (.int n)) => n.natAbs + 1 | _ => 0
section
variable {I : Type} {X : I → Cx} {E : Am} {W : WX} {k : Nat} {mg : Str → Option Value}
theorem zt_cmp {op : CmpOp} {a b : Expr} {pos : Pos} {pa pb : Ev → Rs D} {f : D → D → Rs D} (h : CmpR X E op f) (ha : XL X E W a pa) (hb : XL X E W b pb) (hm : behindInMarks op b = false) : XT X E W (.Compare a [op] [b] pos) (pB (pBin f pa pb)) := yt_cmp h ha hb hm
theorem zt_chain {op op' : CmpOp} {a b d : Expr} {pos : Pos} {pa pb pd : Ev → Rs D} {f f' : D → D → Rs D} (h : CmpR X E op f) (h' : CmpR X E op' f') (ha : XL X E W a pa) (hb : XL X E W b pb) (hd : XL X E W d pd) (hm : lastMarks [op, op'] [b, d] = false := by with_unfolding_all rfl) : XT X E W (.Compare a [op, op'] [b, d] pos) (pB (pChain f f' pa pb pd)) := yt_chain h h' ha hb hd hm
theorem zt_val {a : Expr} {p : Ev → Rs D} (h : XL X E W a p) {cm : Bool} (c : CtxB X E W k cm) (he : ∀ i whole, isTrue a (X i).env whole = (do let v ← whole; standAt a.pos; holding [v] (truthy v)) := by intro _ _; rfl) : XT X E W a (pTr p) := xt_val h c he
theorem zss_frz (i : Nat) {sts : List Stmt} {p : Ev → Fl} (h : XSs X E W sts p) : XSs X E W sts (pFrz i p) := xss_frz i h
/-- not e, by truth -/
def pNotT (p : Ev → Rs Bool) : Ev → Rs D := fun ρ => (p ρ).bind fun b => .ok (.bl (!b))
section
variable {e e2 : Expr} {p pos : Pos} {q : Ev → Rs (List D)}
theorem ye_len {cm : Bool} (c : CtxB X E W k cm) (hn : mg "len" = none) (hm : ∀ i, (X i).mg "len" = mg "len") (hg : ∀ i, Gl (X i) "len") (ha : XAL X E W [e] q)
    (he : ∀ i, starEach [e] (X i).env = (false, eval e (X i).env) :: starEach [] (X i).env := by intro _; rfl) (hpl : ∀ i, (backTo pos (starEach [] (X i).env)).any (·.1) = false := by intro _; rfl) : XE X E W (.Call (.Name "len" p) [e] [] pos) (pCall fLen q) :=
  xe_callB (fun i => by rw [← c.K i]; exact call_lenA) cals_len hg (fun i => (hm i).trans hn) PySem.boot_len ha (he := he) (hpl := hpl)
theorem ye_abs {cm : Bool} (c : CtxB X E W k cm) (hn : mg "abs" = none) (hm : ∀ i, (X i).mg "abs" = mg "abs") (hg : ∀ i, Gl (X i) "abs") (ha : XAL X E W [e] q)
    (he : ∀ i, starEach [e] (X i).env = (false, eval e (X i).env) :: starEach [] (X i).env := by intro _; rfl) (hpl : ∀ i, (backTo pos (starEach [] (X i).env)).any (·.1) = false := by intro _; rfl) : XE X E W (.Call (.Name "abs" p) [e] [] pos) (pCall fAbs q) :=
  xe_callB (fun i => call_abs) cals_abs hg (fun i => (hm i).trans hn) (by decide +kernel) ha (he := he) (hpl := hpl)
theorem ye_sum (c : Ctx X E W k) (hn : mg "sum" = none) (hm : ∀ i, (X i).mg "sum" = mg "sum") (hg : ∀ i, Gl (X i) "sum") (ha : XAL X E W [e] q)
    (he : ∀ i, starEach [e] (X i).env = (false, eval e (X i).env) :: starEach [] (X i).env := by intro _; rfl) (hpl : ∀ i, (backTo pos (starEach [] (X i).env)).any (·.1) = false := by intro _; rfl) : XE X E W (.Call (.Name "sum" p) [e] [] pos) (pCall fSum q) :=
  xe_callB (fun i => by rw [← c.K i]; exact cr_sum (c.calm rfl i)) cals_sum hg (fun i => (hm i).trans hn) (by decide +kernel) ha (he := he) (hpl := hpl)
theorem ye_any (c : Ctx X E W k) (hn : mg "any" = none) (hm : ∀ i, (X i).mg "any" = mg "any") (hg : ∀ i, Gl (X i) "any") (ha : XAL X E W [e] q)
    (he : ∀ i, starEach [e] (X i).env = (false, eval e (X i).env) :: starEach [] (X i).env := by intro _; rfl) (hpl : ∀ i, (backTo pos (starEach [] (X i).env)).any (·.1) = false := by intro _; rfl) : XE X E W (.Call (.Name "any" p) [e] [] pos) (pCall fAny q) :=
  xe_callB (fun i => by rw [← c.K i]; exact cr_any (c.calm rfl i)) cals_any hg (fun i => (hm i).trans hn) (by decide +kernel) ha (he := he) (hpl := hpl)
theorem ye_all (c : Ctx X E W k) (hn : mg "all" = none) (hm : ∀ i, (X i).mg "all" = mg "all") (hg : ∀ i, Gl (X i) "all") (ha : XAL X E W [e] q)
    (he : ∀ i, starEach [e] (X i).env = (false, eval e (X i).env) :: starEach [] (X i).env := by intro _; rfl) (hpl : ∀ i, (backTo pos (starEach [] (X i).env)).any (·.1) = false := by intro _; rfl) : XE X E W (.Call (.Name "all" p) [e] [] pos) (pCall fAll q) :=
  xe_callB (fun i => by rw [← c.K i]; exact cr_all (c.calm rfl i)) cals_all hg (fun i => (hm i).trans hn) (by decide +kernel) ha (he := he) (hpl := hpl)
theorem ye_int {cm : Bool} (c : CtxB X E W k cm) (hn : mg "int" = none) (hm : ∀ i, (X i).mg "int" = mg "int") (hg : ∀ i, Gl (X i) "int") (ha : XAL X E W [e] q)
    (he : ∀ i, starEach [e] (X i).env = (false, eval e (X i).env) :: starEach [] (X i).env := by intro _; rfl) (hpl : ∀ i, (backTo pos (starEach [] (X i).env)).any (·.1) = false := by intro _; rfl) : XE X E W (.Call (.Name "int" p) [e] [] pos) (pCall fInt q) :=
  xe_callTy (fun i => call_int1) cals_int hg (fun i => (hm i).trans hn) (by decide +kernel) ha (he := he) (hpl := hpl)
theorem ye_tuple {cm : Bool} (c : CtxB X E W k cm) (hn : mg "tuple" = none) (hm : ∀ i, (X i).mg "tuple" = mg "tuple") (hg : ∀ i, Gl (X i) "tuple") (ha : XAL X E W [e] q)
    (he : ∀ i, starEach [e] (X i).env = (false, eval e (X i).env) :: starEach [] (X i).env := by intro _; rfl) (hpl : ∀ i, (backTo pos (starEach [] (X i).env)).any (·.1) = false := by intro _; rfl) : XE X E W (.Call (.Name "tuple" p) [e] [] pos) (pCall fTuple q) :=
  xe_callTy (fun i => by rw [← c.K i]; exact call_tuple_of) cals_tuple hg (fun i => (hm i).trans hn) (by decide +kernel) ha (he := he) (hpl := hpl)
theorem yn_list {cm : Bool} (c : CtxB X E W k cm) (hn : mg "list" = none) (hm : ∀ i, (X i).mg "list" = mg "list") (hg : ∀ i, Gl (X i) "list") (ha : XAL X E W [e] q)
    (he : ∀ i, starEach [e] (X i).env = (false, eval e (X i).env) :: starEach [] (X i).env := by intro _; rfl) (hpl : ∀ i, (backTo pos (starEach [] (X i).env)).any (·.1) = false := by intro _; rfl) : XN X E W (.Call (.Name "list" p) [e] [] pos) (pCall fList q) :=
  xn_callTy (fun i => by rw [← c.K i]; exact call_list_of) cals_list hg (fun i => (hm i).trans hn) (by decide +kernel) ha (he := he) (hpl := hpl)
theorem yn_sorted {cm : Bool} (c : CtxB X E W k cm) (hn : mg "sorted" = none) (hm : ∀ i, (X i).mg "sorted" = mg "sorted") (hg : ∀ i, Gl (X i) "sorted") (ha : XAL X E W [e] q)
    (he : ∀ i, starEach [e] (X i).env = (false, eval e (X i).env) :: starEach [] (X i).env := by intro _; rfl) (hpl : ∀ i, (backTo pos (starEach [] (X i).env)).any (·.1) = false := by intro _; rfl) : XN X E W (.Call (.Name "sorted" p) [e] [] pos) (pCall fSorted q) :=
  xn_callB (fun i => by rw [← c.K i]; exact cr_srt (c.hu i)) cals_sorted hg (fun i => (hm i).trans hn) (by decide +kernel) ha (he := he) (hpl := hpl)
theorem ye_max2 (c : Ctx X E W k) (hn : mg "max" = none) (hm : ∀ i, (X i).mg "max" = mg "max") (hg : ∀ i, Gl (X i) "max") (ha : XAL X E W [e, e2] q)
    (he : ∀ i, starEach [e, e2] (X i).env = (false, eval e (X i).env) :: starEach [e2] (X i).env := by intro _; rfl) (hpl : ∀ i, (backTo pos (starEach [e2] (X i).env)).any (·.1) = false := by intro _; rfl) : XE X E W (.Call (.Name "max" p) [e, e2] [] pos) (pCall fMax2 q) :=
  xe_callB (fun i => call_max2 (c.calm rfl i)) cals_max2 hg (fun i => (hm i).trans hn) (by decide +kernel) ha (he := he) (hpl := hpl)
theorem ye_min2 (c : Ctx X E W k) (hn : mg "min" = none) (hm : ∀ i, (X i).mg "min" = mg "min") (hg : ∀ i, Gl (X i) "min") (ha : XAL X E W [e, e2] q)
    (he : ∀ i, starEach [e, e2] (X i).env = (false, eval e (X i).env) :: starEach [e2] (X i).env := by intro _; rfl) (hpl : ∀ i, (backTo pos (starEach [e2] (X i).env)).any (·.1) = false := by intro _; rfl) : XE X E W (.Call (.Name "min" p) [e, e2] [] pos) (pCall fMin2 q) :=
  xe_callB (fun i => call_min2 (c.calm rfl i)) cals_min2 hg (fun i => (hm i).trans hn) (by decide +kernel) ha (he := he) (hpl := hpl)
end
end
end DL
end

section
set_option linter.all false
set_option maxRecDepth 100000
set_option maxHeartbeats 4000000
namespace DL
open PySem PySem.Spec L2

/-! ## an instance under way -/
/-- at x stands the instance d, which nobody but slot 0 knows -/
structure Mine (E : Am) (B F H : Hp) (σ : L2.St) (ρ : Ev) (x : Addr) (d : D) (ho : HO) : Prop where
  hx : H x = some ho
  own : OwnR E F d ho
  fx : F x = none
  bx : B x = none
  str : StR E (upd B x ho) F H σ ρ
  p0 : ρ[0]? = some (.pin (.ref x))
def PostI (E : Am) (W : WX) (F0 B : Hp) (Dn : Ends) (x : Addr) : Rs D → Prop
  | .ok d => ∀ F' H', Ext F0 B F' H' → Rep E F' d (.ref x) → Dn.rt .non H' ∧ ∀ σ', Dn.nx σ' H'
  | .err c z => ∀ F' H' σ' cls dd, Ext F0 B F' H' → ErrP E F' H' c z cls dd → W cls dd σ' H'
  | .no => False
abbrev PI0 := Addr → D → Ev → Rs D
def DoesI (E : Am) (W : WX) (t : TS) (p : PI0) : Prop :=
  ∀ (F0 B F H : Hp) (σ : L2.St) (ρ : Ev) (Dn : Ends) (x : Addr) (d : D) (ho : HO), Ext F0 B F H → Mine E B F H σ ρ x d ho → PostI E W F0 B Dn x (p x d ρ) → t Dn σ H
def XSI {I : Type} (X : I → Cx) (E : Am) (W : WX) (st : List Stmt) (p : PI0) : Prop := ∃ t, (∀ i, PSs (X i) st t) ∧ DoesI E W t p
def qKeep (q : PI0) (x : Addr) (d : D) (ρ1 : Ev) : Rs D := match ρ1[0]? with
  | some (EV.pin (V.ref y)) => if y = x then q x d ρ1 else .no
  | _ => .no
def qPut (C f : Str) (v : D) (q : PI0) (x : Addr) (d : D) (ρ : Ev) : Rs D := match d with
  | .ins C' ns ds => if C' = C ∧ f ∉ ns ∧ ns.length < 900 then q x (.ins C' (ns ++ [f]) (ds ++ [v])) ρ else .no
  | _ => .no
/-- an ordinary statement -/
def qStm (p : Ev → Fl) (q : PI0) : PI0 := fun x d ρ => match p ρ with
  | .nx ρ1 => qKeep q x d ρ1
  | .err c z _ => .err c z
  | _ => .no
/-- self.f = e -/
def qFld (C f : Str) (pe : Ev → Rs D) (q : PI0) : PI0 := fun x d ρ => match pe ρ with
  | .ok v => qPut C f v q x d ρ
  | .err c z => .err c z
  | .no => .no
/-- the rest, self a datum -/
def qRest (p : Ev → Fl) : PI0 := fun x d ρ => match p (ρ.set 0 (.dat d)) with
  | .nx _ => .ok d
  | .rt .non => .ok d
  | .err c z _ => .err c z
  | _ => .no
theorem ext_prot {F0 B F H F' H' : Hp} {x : Addr} {ho : HO} (a : Ext F0 B F H) (b : Ext F (upd B x ho) F' H') (hb : B x = none) : Ext F0 B F' H' :=
  ⟨a.f.trans b.f, fun l u e => b.h l u (by rw [upd_ne (ne_of_none e hb)]; exact e), b.fh, fun l hl => by
    have ne : l ≠ x := fun z => hl (by rw [z]; exact hb)
    rcases b.nf l (by rw [upd_ne ne]; exact hl) with q | ⟨vs, q⟩
    · rcases a.nf l hl with p | p
      · exact .inl (q.trans p)
      · exact .inr p
    · rw [upd_ne ne] at q; exact .inr ⟨vs, q⟩⟩
theorem ext_then {F0 B F H F' H' : Hp} (a : Ext F0 B F H) (b : Ext F B F' H') : Ext F0 B F' H' :=
  ⟨a.f.trans b.f, b.h, b.fh, fun l hl => by
    rcases b.nf l hl with q | q
    · rcases a.nf l hl with p | p
      · exact .inl (q.trans p)
      · exact .inr p
    · exact .inr q⟩
theorem same_prot {B H : Hp} {x : Addr} {ho : HO} (s : Same B H) (h : H x = some ho) : Same (upd B x ho) H := fun l u e => by
  by_cases q : l = x
  · subst q; rw [upd_same] at e; rw [h]; exact e
  · rw [upd_ne q] at e; exact s l u e
theorem putF_new {f : Str} {v : V} : ∀ {ns : List Str} {vs : List V}, ns.length = vs.length → f ∉ ns → putF f v (ns.zip vs) = (ns ++ [f]).zip (vs ++ [v])
  | [], [], _, _ => rfl
  | [], _ :: _, h, _ => by simp at h
  | _ :: _, [], h, _ => by simp at h
  | n :: ns, w :: vs, h, hf => by
    have ne : ¬ n = f := fun z => hf (by rw [z]; exact List.mem_cons_self)
    show (if n = f then (n, v) :: ns.zip vs else (n, w) :: putF f v (ns.zip vs)) = _
    rw [if_neg ne, putF_new (by simpa using h) fun z => hf (List.mem_cons_of_mem _ z)]
    rfl
theorem Mine.ext {E : Am} {B F H F' H' : Hp} {σ : L2.St} {ρ : Ev} {x : Addr} {d : D} {ho : HO} (m : Mine E B F H σ ρ x d ho) (e : Ext F H F' H') : Mine E B F' H' σ ρ x d ho :=
  ⟨e.h _ _ m.hx, m.own.mono e.f, by rw [e.keep m.hx m.own.nt]; exact m.fx, m.bx, m.str.mono e, m.p0⟩
section
variable {I : Type} {X : I → Cx} {E : Am} {W : WX} {k : Nat}
theorem xi_stm {s : Stmt} {rest : List Stmt} {p : Ev → Fl} {q : PI0} (h : XS X E W s p) (h' : XSI X E W rest q) : XSI X E W (s :: rest) (qStm p q) := by
  obtain ⟨t, h1, h2⟩ := h
  obtain ⟨u, g1, g2⟩ := h'
  refine ⟨_, fun i => pss_cons (h1 i) (g1 i), fun F0 B F H σ ρ Dn x d ho e m post => ?_⟩
  refine h2 F (upd B x ho) F H σ ρ _ ⟨Same.refl F, same_prot e.h m.hx, e.fh, fun _ _ => .inl rfl⟩ m.str ?_
  unfold qStm at post
  cases ep : p ρ with
  | nx ρ1 =>
    rw [ep] at post
    intro F' H' σ' x' r'
    have post : PostI E W F0 B Dn x (qKeep q x d ρ1) := post
    unfold qKeep at post
    split at post
    · rename_i y e0
      by_cases c : y = x
      · subst c
        rw [if_pos rfl] at post
        exact g2 F0 B F' H' σ' ρ1 Dn y d ho (ext_prot e x' m.bx) ⟨x'.h _ _ upd_same, m.own.mono x'.f, by rw [x'.keep upd_same m.own.nt]; exact m.fx, m.bx, r', e0⟩ post
      · rw [if_neg c] at post; exact post.elim
    · exact post.elim
  | err c z ρ1 =>
    rw [ep] at post
    exact fun F' H' σ' cls dd x' _ g => post F' H' σ' cls dd (ext_prot e x' m.bx) g
  | rt d => rw [ep] at post; exact post.elim
  | bk ρ => rw [ep] at post; exact post.elim
  | ct ρ => rw [ep] at post; exact post.elim
  | no => rw [ep] at post; exact post.elim
theorem xi_fld {C : Str} {fs : List Str} {o e : Expr} {f : Str} {rest : List Stmt} {pos pos' : Pos} {pe : Ev → Rs D} {q : PI0} {cm : Bool} (c : CtxB X E W k cm) (hc : ClsOk E C fs) (hf : f ∈ fs) (ho : ∀ j, PE (X j) o (tVar 0)) (he : XE X E W e pe) (h' : XSI X E W rest q)
    (hs : ∀ i, swapsWith e (some (.Attribute o f pos')) pos.line (X i).env = pure false := by intro _; rfl) : XSI X E W (.Assign [.Attribute o f pos'] e pos :: rest) (qFld C f pe q) := by
  obtain ⟨t, h1, h2⟩ := he
  obtain ⟨u, g1, g2⟩ := h'
  refine ⟨tSeq (sFld E.K (tVar 0) t f) u, fun i => pss_cons (by rw [← c.K i]; exact ps_fld (ho i) (h1 i) (hs i)) (g1 i), fun F0 B F H σ ρ Dn x d hob ex m post => ?_⟩
  show t σ H _
  refine h2 (upd B x hob) F H σ ρ _ ex.fh (same_prot ex.h m.hx) m.str ?_
  unfold qFld at post
  cases ep : pe ρ with
  | no => rw [ep] at post; exact post.elim
  | err cc z => rw [ep] at post; exact fun F1 H1 cls dd x1 g => post F1 H1 σ cls dd (ex.trans x1) g
  | ok v =>
    rw [ep] at post
    intro F1 H1 vv x1 gv
    have pst : PostI E W F0 B Dn x (qPut C f v q x d ρ) := post
    clear post
    have m1 := m.ext x1
    have e1 := ex.trans x1
    clear m
    unfold qPut at pst
    split at pst
    case h_2 => exact pst.elim
    rename_i C' ns ds
    by_cases cc : C' = C ∧ f ∉ ns ∧ ns.length < 900
    · rw [if_pos cc] at pst
      obtain ⟨rfl, cf, cl⟩ := cc
      obtain ⟨dx, vs, rfl, q2, q3⟩ := m1.own
      have hl : ns.length = vs.length := by rw [q2]; exact q3.len
      refine ⟨.ref x, m1.str.pin 0 _ m1.p0, x, E.cl C', dx, ns.zip vs, rfl, m1.hx, hc.cl, hc.no f hf, by rw [List.length_zip]; omega, ?_⟩
      rw [putF_new hl cf]
      refine g2 F0 B F1 _ σ ρ Dn x (.ins C' (ns ++ [f]) (ds ++ [v])) (.ins (E.cl C') dx ((ns ++ [f]).zip (vs ++ [vv]))) (e1.wr m1.fx m1.bx) ⟨upd_same, ⟨dx, _, rfl, by simp [q2], q3.append (.cons gv rfl)⟩, m1.fx, m1.bx, ?_, m1.p0⟩ pst
      have s := m1.str
      refine ⟨s.len, s.dat, fun i d' hi => ?_, s.apart, s.pin⟩
      obtain ⟨l, ho', w1, w2, w3, w4, w5⟩ := s.own i d' hi
      have ne : l ≠ x := fun z => by rw [z, upd_same] at w4; cases w4
      rw [upd_ne ne] at w4
      exact ⟨l, ho', w1, by rw [upd_ne ne]; exact w2, w3, by rw [upd_ne ne]; exact w4, w5⟩
    · rw [if_neg cc] at pst; exact pst.elim
theorem set_self {α : Type} {l : List α} {i : Nat} {a : α} (h : l[i]? = some a) : l.set i a = l := by
  apply List.ext_getElem?
  intro j
  by_cases q : i = j
  · subst q
    rw [List.getElem?_set_self (List.getElem?_eq_some_iff.mp h).1, h]
  · rw [List.getElem?_set_ne q]
theorem xi_rest {rest : List Stmt} {p : Ev → Fl} (h : XSs X E W rest p) : XSI X E W rest (qRest p) := by
  obtain ⟨t, h1, h2⟩ := h
  refine ⟨t, h1, fun F0 B F H σ ρ Dn x d ho e m post => ?_⟩
  have sf : Same F (upd F x ho) := same_upd_self m.fx
  have e2 := e.frz m.hx m.fx m.bx
  have s := m.str
  have r1 : StR E B (upd F x ho) H σ ρ := by
    refine ⟨s.len, fun i d' hi => ?_, fun i d' hi => ?_, s.apart, s.pin⟩
    · obtain ⟨v, w1, w2⟩ := s.dat i d' hi
      exact ⟨v, w1, Rep.mono sf _ _ w2⟩
    · obtain ⟨l, ho', w1, w2, w3, w4, w5⟩ := s.own i d' hi
      have ne : l ≠ x := fun z => by rw [z, upd_same] at w4; cases w4
      rw [upd_ne ne] at w4
      exact ⟨l, ho', w1, w2, by rw [upd_ne ne]; exact w3, w4, w5.mono sf⟩
  have rep : Rep E (upd F x ho) d (.ref x) := (m.own.mono sf).rep upd_same
  have r2 := r1.setD (i := 0) rep
  rw [set_self (s.pin 0 _ m.p0)] at r2
  refine h2 (upd F x ho) B (upd F x ho) H σ _ Dn ⟨Same.refl _, e2.h, e2.fh, fun _ _ => .inl rfl⟩ r2 ?_
  unfold qRest at post
  cases ep : p (ρ.set 0 (.dat d)) with
  | nx ρ1 => rw [ep] at post; exact fun F' H' σ' x' _ => (post F' H' (ext_then e2 x') (Rep.mono x'.f _ _ rep)).2 σ'
  | rt d' =>
    rw [ep] at post
    intro F' H' v x' g
    cases d' <;> first | exact post.elim | skip
    rw [show v = V.non from g]
    exact (post F' H' (ext_then e2 x') (Rep.mono x'.f _ _ rep)).1
  | err c z ρ1 => rw [ep] at post; exact fun F' H' σ' cls dd x' _ g => post F' H' σ' cls dd (ext_then e2 x') g
  | bk ρ1 => rw [ep] at post; exact post.elim
  | ct ρ1 => rw [ep] at post; exact post.elim
  | no => rw [ep] at post; exact post.elim
end
/-! ## __init__ and the call of a class -/
def spI (E : Am) (n : Nat) (C : Str) (f : Addr → List D → Rs D) : Sp := fun vs H Q Ex => ∃ x dx us H1 F ds, vs = .ref x :: us ∧ Same F H1 ∧ H1 x = none ∧ H1 dx = none ∧ dx ≠ x ∧ H = upd (upd H1 dx (.own x)) x (.ins (E.cl C) dx []) ∧ RepL E F ds us ∧ ds.length + 1 = n ∧
  PostI E (WF Ex) F H1 { nx := fun _ H' => Q .non H', rt := Q } x (f x ds)
theorem spI_len {E : Am} {n : Nat} {C : Str} {f : Addr → List D → Rs D} {vs : List V} {H : Hp} {Q : VK} {Ex : XK} (h : spI E n C f vs H Q Ex) : vs.length = n := by
  obtain ⟨x, dx, us, H1, F, ds, rfl, _, _, _, _, _, r, hl, _⟩ := h
  rw [List.length_cons, ← r.len]; exact hl
def runI (m : Nat) (C : Str) (p : PI0) : Addr → List D → Rs D := fun x ds => p x (.ins C [] []) (.pin (.ref x) :: (ds.map .dat ++ List.replicate (m - (ds.length + 1)) .unb))
theorem StR.cons_pin {E : Am} {B F H : Hp} {σ : L2.St} {ρ : Ev} (s : StR E B F H σ ρ) (v : V) : StR E B F H (some v :: σ) (.pin v :: ρ) := by
  refine ⟨by simp [s.len], fun i d hi => ?_, fun i d hi => ?_, fun i j d d' l hij hi hj hl => ?_, fun i d hi => ?_⟩
  · cases i with
    | zero => cases hi
    | succ i => exact s.dat i d hi
  · cases i with
    | zero => cases hi
    | succ i => exact s.own i d hi
  · cases i with
    | zero => cases hi
    | succ i =>
      cases j with
      | zero => cases hj
      | succ j => exact s.apart i j d d' l (fun z => hij (by rw [z])) hi hj hl
  · cases i with
    | zero => cases hi; rfl
    | succ i => exact s.pin i d hi
theorem fn_okI {P : Program} {w : World} {E : Am} {mg : Str → Option Value} {base : Heap} {x qual C : Str} {params : Arguments} {body : List Stmt} {sc : Scope} {dvs : List V} {kws : List (Str × V)} {f : Addr} {fd : FuncData} {n0 : Str} {N ps : List Str} {k : Nat} {p : PI0} (F : FunD E.K x qual params body sc dvs kws f fd) (S : FnScope (n0 :: N) ps sc)
    (hb : ∀ (cdv : Value) (A : Around) (outer : List Env) (s : Shared) (H : Hp) (Ex : XK), Room k (A.deeper (PyProof.Rows.envOfC qual sc s.heap.objs.size f cdv)) → XSI (Bd P w E mg base (n0 :: N) qual sc f cdv A outer s H Ex) E (WF Ex) body p) :
    FnOk P w E.K mg base (L2.CX P w) (k + 1) f fd ps (spI E ps.length C (runI (n0 :: N).length C p)) := by
  refine F.ok S (fun vs H Q Ex h => spI_len h) (fun cdv A outer s H vs Q Ex hr h => ?_)
  obtain ⟨t, t1, t2⟩ := hb cdv A outer s H Ex hr
  refine ⟨t, t1 (), ?_⟩
  obtain ⟨y, dx, us, H1, F0, ds, rfl, sm, hy, hdx, ne, rfl, r, hl, post⟩ := h
  have s1 : Same H1 (upd H1 dx (.own y)) := same_upd_self hdx
  have hy1 : (upd H1 dx (.own y)) y = none := by rw [upd_ne (Ne.symm ne)]; exact hy
  have s2 : Same H1 (upd (upd H1 dx (.own y)) y (.ins (E.cl C) dx [])) := s1.trans (same_upd_self hy1)
  have e0 : L2.start (n0 :: N) (.ref y :: us) = some (.ref y) :: L2.start N us := by
    unfold L2.start; simp
  have hst := (start_str (E := E) (B := upd H1 y (.ins (E.cl C) dx [])) (H := upd (upd H1 dx (.own y)) y (.ins (E.cl C) dx [])) (N := N) r).cons_pin (.ref y)
  rw [e0]
  refine t2 F0 H1 F0 _ _ _ _ y (.ins C [] []) (.ins (E.cl C) dx []) ⟨Same.refl _, s2, sm.trans s2, fun _ _ => .inl rfl⟩ ⟨upd_same, ⟨dx, [], rfl, rfl, rfl⟩, sm.free hy, hy, hst, rfl⟩ ?_
  unfold runI at post
  rw [List.length_cons, Nat.add_sub_add_right] at post
  exact post
/-- whatever the address -/
noncomputable def anyX (f : Addr → List D → Rs D) : List D → Rs D := fun ds => by
  classical exact if h : ∃ r, ∀ x, f x ds = r then h.choose else .no
theorem anyX_eq {f : Addr → List D → Rs D} {ds : List D} {r : Rs D} (h : ∀ x, f x ds = r) : anyX f ds = r := by
  have e : ∃ r, ∀ x, f x ds = r := ⟨r, h⟩
  unfold anyX
  rw [dif_pos e]
  have := e.choose_spec 0
  rw [← this, h]
section
variable {X : Cx} {k : Nat} {f C : Addr} {fd : FuncData} {ps : List Str} {sp : Sp} {Ex : L2.St → XK} {CX : CXT} {x : Str} {p pos : Pos} {e : Expr} {es : List Expr} {t : TA} {ds : List Value} {dvs : List V}
theorem run_makeSD {pins : List (Addr × Obj)} {σ : L2.St} {H : Hp} {s : Shared} {Q : VK} {us : List Value} {vs : List V} (M : Mk X.K C f) (F : FnOk X.prog X.w X.K X.mg X.base CX k f fd ps sp) (hr : Room (k + 1) X.A) (hb : Binds X.K fd ps ds) (hd : Vals dvs ds)
    (hx : PassesAt CX X σ (Ex σ)) (I : Inv X pins σ H s) (r : Vals vs us)
    (h : ∀ x dx, H x = none → H dx = none → dx ≠ x → sp (.ref x :: (vs ++ dvs)) (upd (upd H dx (.own x)) x (.ins C dx [])) (fun v H2 => v = .non ∧ Q (.ref x) H2) (Ex σ)) :
    wpAny (model X.prog X.w) X.A (call (.ref C) us) (EP X pins σ Q) X.xe s := by
  have hq := h (s.heap.objs.size + 1) s.heap.objs.size (I.hok.fresh (Nat.le_succ _)) (I.hok.fresh (Nat.le_refl _)) (Nat.ne_of_lt (Nat.lt_succ_self _))
  have I2 := Inv.made (C := C) I
  have r2 : Vals (V.ref (s.heap.objs.size + 1) :: (vs ++ dvs)) (Value.ref (s.heap.objs.size + 1) :: (us ++ ds)) := .cons rfl (r.append hd)
  have hl : (Value.ref (s.heap.objs.size + 1) :: us ++ ds).length = ps.length := by
    have e := r2.length
    rw [F.len _ _ _ _ hq] at e
    exact e.symm
  refine wpAny_call (make_map (f := f) I.kIn M.makes M.init (beq_iff_eq.mp M.fn) (codeAny_mono (F.run _ X.stack _ _ ⟨Value.ref (s.heap.objs.size + 1) :: us, []⟩ (Value.ref (s.heap.objs.size + 1) :: (us ++ ds)) _ _ (Ex σ) (hr.make C us [])
    (I2.env0.make C us []) (hb _ (Value.ref (s.heap.objs.size + 1) :: us) I2.kIn hl) r2 hq) fun r s' hq' => ?_))
  cases r with
  | error e => exact hx pins _ _ e s' I2 hq'
  | ok fl =>
    cases fl with
    | ret u =>
      obtain ⟨v, H', I3, rv, ev, q3⟩ := I2.after hq'
      subst ev
      exact ⟨rv, ⟨V.ref (s.heap.objs.size + 1), H', I3, rfl, q3⟩⟩
    | next => exact False.elim hq'
    | brk => exact False.elim hq'
    | cont => exact False.elim hq'
def tMakeSD (C : Addr) (sp : Sp) (dvs : List V) (Ex : L2.St → XK) (t : TA) : TE := fun σ H Q => t σ H fun vs H1 => ∀ x dx, H1 x = none → H1 dx = none → dx ≠ x →
  sp (.ref x :: (vs ++ dvs)) (upd (upd H1 dx (.own x)) x (.ins C dx [])) (fun v H2 => v = .non ∧ Q (.ref x) H2) (Ex σ)
theorem pe_makeSD (M : Mk X.K C f) (F : FnOk X.prog X.w X.K X.mg X.base CX k f fd ps sp) (hr : Room (k + 1) X.A) (hg : Gl X x) (hm : X.mg x = some (.ref C)) (hb : Binds X.K fd ps ds) (hd : Vals dvs ds) (hx : ∀ σ, PassesAt CX X σ (Ex σ))
    (ha : PA X (e :: es) t) (hdb : (x == ("__debug__" : Str)) = false := by decide) (he : starEach (e :: es) X.env = (false, eval e X.env) :: starEach es X.env := by rfl) (hpl : (backTo pos (starEach es X.env)).any (·.1) = false := by rfl) :
    PE X (.Call (.Name x p) (e :: es) [] pos) (tMakeSD C sp dvs Ex t) := by
  refine ⟨fun pins s σ H Q I h => ?_⟩
  refine wpAny_Call_Name_kw (ld_glob I hg hm ?_ hdb)
  refine PySem.W.callWith_K (h₀ := X.base) I.ok.mod.kin M.kp (thn (ha.run pos pins s σ H _ I h) fun us s1 ⟨vs, H1, I1, r, q⟩ => ⟨I1.kIn, ?_⟩) he hpl
  exact run_makeSD M F hr hb hd (hx σ) I1 r q
end
section
variable {I : Type} {X : I → Cx} {E : Am} {W : WX} {k : Nat}
theorem evals_make {n : Nat} {C : Str} {f : Addr → List D → Rs D} {dds : List D} {dvs : List V} {t : TA} {q : Ev → Rs (List D)} (hd : ∀ F, RepL E F dds dvs) (h : Evals E W (GA E) t q) : Evals E W (GS E) (tMakeSD (E.cl C) (spI E (n + 1) C f) dvs (WE W) t) (pFn (arity n (anyX f)) dds q) := by
  intro B F H σ ρ Q s sb r post
  show t σ H _
  refine Evals.seq h s sb r post fun F1 H1 ds vs e1 x1 sb1 r1 gg post1 => ?_
  intro x dx hx hdx ne
  unfold arity at post1
  by_cases c : (ds ++ dds).length = n
  · rw [if_pos c] at post1
    refine ⟨x, dx, vs ++ dvs, H1, F1, ds ++ dds, rfl, x1.fh, hx, hdx, ne, rfl, gg.append (hd F1), by rw [c], ?_⟩
    by_cases ex : ∃ r, ∀ x, f x (ds ++ dds) = r
    · have e2 := ex.choose_spec x
      unfold anyX at post1
      rw [dif_pos ex, ← e2] at post1
      cases er : f x (ds ++ dds) with
      | ok d => rw [er] at post1; exact fun F' H' xx rr => ⟨⟨rfl, post1 F' H' _ xx rr⟩, fun _ => ⟨rfl, post1 F' H' _ xx rr⟩⟩
      | err c z => rw [er] at post1; exact fun F' H' _ cls dd xx ee => post1 F' H' cls dd xx ee
      | no => rw [er] at post1; exact post1.elim
    · unfold anyX at post1
      rw [dif_neg ex] at post1
      exact post1.elim
  · rw [if_neg c] at post1; exact post1.elim
/-- C(e, ..) -/
theorem xe_make {j n : Nat} {f : Addr} {fd : FuncData} {ps : List Str} {C : Str} {fn : Addr → List D → Rs D} {dds : List D} {dvs : List V} {ds : List Value} {p pos : Pos} {e : Expr} {es : List Expr} {q : Ev → Rs (List D)} (c : Ctx X E W k) (M : Mk E.K (E.cl C) f)
    (G : ∀ i, FnOk (X i).prog (X i).w (X i).K (X i).mg (X i).base (L2.CX (X i).prog (X i).w) j f fd ps (spI E (n + 1) C fn)) (hj : j + 1 ≤ k) (hg : ∀ i, Gl (X i) C) (hm : ∀ i, (X i).mg C = some (.ref (E.cl C))) (hb : Binds E.K fd ps ds) (hd : Vals dvs ds) (hD : ∀ F, RepL E F dds dvs) (ha : XA X E W (e :: es) q)
    (hdb : (C == ("__debug__" : Str)) = false := by decide) (he : ∀ i, starEach (e :: es) (X i).env = (false, eval e (X i).env) :: starEach es (X i).env := by intro _; rfl) (hpl : ∀ i, (backTo pos (starEach es (X i).env)).any (·.1) = false := by intro _; rfl) : XE X E W (.Call (.Name C p) (e :: es) [] pos) (pFn (arity n (anyX fn)) dds q) := by
  obtain ⟨t, a1, a2⟩ := ha
  exact ⟨_, fun i => pe_makeSD (by rw [c.K i]; exact M) (G i) ((c.room rfl i).mono hj) (hg i) (hm i) (by rw [c.K i]; exact hb) hd (fun σ => passAt (c.tk i) σ) (a1 i) hdb (he i) (hpl i), evals_make hD a2⟩
end
end DL
end

section
set_option linter.all false
set_option maxRecDepth 100000
set_option maxHeartbeats 4000000
namespace DL
open PySem PySem.Spec L2
/-! ## the facts of a class -/
theorem no_nil {E : Am} {C : Str} : ∀ g ∈ ([] : List Str), NoAttr E.K (E.cl C) g := fun g h => by cases h
theorem no_cons {E : Am} {C f : Str} {fs : List Str} (h : NoAttr E.K (E.cl C) f) (t : ∀ g ∈ fs, NoAttr E.K (E.cl C) g) : ∀ g ∈ f :: fs, NoAttr E.K (E.cl C) g := fun g hg => by
  rcases List.mem_cons.mp hg with z | z
  · rw [z]; exact h
  · exact t g z
theorem binds_nil {K : PySem.W.Frag} {fd : FuncData} {ps : List Str} (h : ∃ ds, Vals ([] : List V) ds ∧ Binds K fd ps ds) : Binds K fd ps [] := by
  obtain ⟨ds, v, b⟩ := h
  cases v
  exact b
/-- a default that is an object of the written part -/
theorem dfl_rep {E : Am} {d : D} {a : Addr} (h : repB E.K d (.ref a) = true) (F : Hp) : Rep E F d (.ref a) := by
  obtain ⟨v, r1, r2⟩ := repB_ok d _ h
  cases v <;> first | (obtain ⟨t, z⟩ := r1; cases z; done) | (cases r1; done) | skip
  rename_i b
  have e : Value.ref a = Value.ref b := r1
  cases e
  exact r2 F
def dflX (f : Str × Option Str) (i : Nat) (d : D) (K : PySem.W.Frag) : Bool := repB K d (.ref (He.dflAt f i K))
/-- a class that makes instances: its __init__, of level k -/
structure InX (P : Program) (w : World) (E : Am) (mg : Str → Option Value) (base : Heap) (k : Nat) (C : Str) (n : Nat) (dds : List D) (fn : Addr → List D → Rs D) : Prop where
  ex : ∃ (f : Addr) (fd : FuncData) (ps : List Str) (dvs : List V) (ds : List Value), FnOk P w E.K mg base (L2.CX P w) k f fd ps (spI E (n + 1) C fn) ∧ Mk E.K (E.cl C) f ∧ Binds E.K fd ps [] ∧ Vals dvs ds ∧ (∀ F, RepL E F dds dvs) ∧ Binds E.K fd ps ds
theorem inX_mk {P : Program} {w : World} {E : Am} {mg : Str → Option Value} {base : Heap} {x qual C : Str} {params : Arguments} {body : List Stmt} {sc : Scope} {dvs dvs2 : List V} {kws : List (Str × V)} {f : Addr} {fd : FuncData} {n0 : Str} {N ps : List Str} {k m n : Nat} {p : PI0} {fn : Addr → List D → Rs D} {dds : List D} (F : FunD E.K x qual params body sc dvs kws f fd) (S : FnScope (n0 :: N) ps sc) (hm : (n0 :: N).length = m) (hn : ps.length = n + 1) (hfn : fn = runI m C p) (M : Mk E.K (E.cl C) f)
    (B : Binds E.K fd ps []) (hD : ∀ F, RepL E F dds dvs2) (B2 : ∃ ds, Vals dvs2 ds ∧ Binds E.K fd ps ds)
    (hb : ∀ (cdv : Value) (A : Around) (outer : List Env) (s : Shared) (H : Hp) (Ex : XK), Room k (A.deeper (PyProof.Rows.envOfC qual sc s.heap.objs.size f cdv)) → XSI (Bd P w E mg base (n0 :: N) qual sc f cdv A outer s H Ex) E (WF Ex) body p) : InX P w E mg base (k + 1) C n dds fn := by
  subst hm hfn
  obtain ⟨ds, v, b⟩ := B2
  have z := fn_okI (C := C) F S hb
  rw [hn] at z
  exact ⟨f, fd, ps, dvs2, ds, z, M, B, v, hD, b⟩
/-- what raising an own class over ValueError wants -/
abbrev ExcX (E : Am) (C : Str) : Prop := PySem.W.excIn E.K (E.cl C) He.veBase "ValueError.__new__" = true ∧ PySem.W.keepIn E.K (.ref (E.cl C)) = true ∧ PySem.W.subIn E.K (.ref (E.cl C)) (.type "BaseException") = some true ∧ PySem.W.typeIn E.K (.ref (E.cl C)) = some (.type "type")
theorem zs_raise {I : Type} {X : I → Cx} {E : Am} {W : WX} {k : Nat} {x m : Str} {j : Nat} {p1 p2 p3 pos : Pos} (c : Ctx X E W k) (q : ExcX E x) (gC : ∀ i, (X i).mg x = some (.ref (E.cl x))) (hg : ∀ i, Gl (X i) x) (hdb : (x == ("__debug__" : Str)) = false := by decide) :
    XS X E W (.Raise (some (.Call (.Name x p1) [.Constant (.str m) j p2] [] p3)) none pos) (fun ρ => .err x none ρ) :=
  xs_raise c PySem.F.excBase_ValueError rfl q.1 gC q.2.1 (fun i => raises_own (by rw [c.K i]; exact q.2.2.1) (by rw [c.K i]; exact q.2.2.2)) hg hdb
end DL
end

section
set_option linter.all false
set_option maxRecDepth 100000
set_option maxHeartbeats 4000000
/-! enumerate(t), t a tuple -/
namespace DL
open PySem PySem.Spec PyProof.Rows L2
set_option maxHeartbeats 4000000 in
theorem meets_enum1 {v : Value} {o : Obj} {H : Heap → Prop} (B : Begins v o H) :
    Meets (Builtin.«enumerate.__new__» ⟨[.type "enumerate", v], []⟩) (fun _ R s => H s.heap ∧
      R (.ok (.ret (.ref (s.heap.push o).objs.size))) { s with heap := (s.heap.push o).push { cls := .type "enumerate", data := .fields #[.none, .bool false, .ref s.heap.objs.size, rawInt 0, .none, .none] } }) :=
  .of_wp fun prog w A R s h => by
    obtain ⟨hp, g, d, tk, os⟩ := s; obtain ⟨h1, h⟩ := h
    have hsub := sub_enumerate
    have q1 : ∀ {A' : Around} {E : Value → Shared → Prop} {Q : Value → Shared → Prop}, Q (.ref hp.objs.size) ⟨hp.push o, g, d, tk, os⟩ → wpAny (model prog w) A' (pyIter v) Q E ⟨hp, g, d, tk, os⟩ :=
      fun q => B.iter prog w _ _ ⟨hp, g, d, tk, os⟩ _ h1 q
    wp_walk using q1
    refine wpAny_stack_any fun st => wpAny_pure ?_
    split
    · rename_i c _ _ _ _ _
      cases (c == Value.type "enumerate")
      · wp_walk using q1
        exact ⟨_, rfl, h⟩
      · wp_walk using q1
        exact ⟨_, rfl, h⟩
    · wp_walk using q1
      exact ⟨_, rfl, h⟩
theorem enum1_begins {prog : Program} {w : World} {A : Around} {E : Value → Shared → Prop} {s : Shared} {v : Value} {o : Obj} {H : Heap → Prop} {Q : Value → Shared → Prop} (B : Begins v o H) (h1 : H s.heap)
    (h : ∀ h', IsEnum h' (s.heap.objs.size + 1) s.heap.objs.size 0 .none → h'.get? s.heap.objs.size = some o → h'.objs.size = s.heap.objs.size + 2 →
      (∀ b o, s.heap.get? b = some o → h'.get? b = some o) → Q (.ref (s.heap.objs.size + 1)) { s with heap := h' }) :
    wpAny (model prog w) A (call (.type "enumerate") [v]) Q E s := by
  refine callType_new F.called_enumerate (by decide) (F.typeCall_enumerate_1 _) (F.newCall_enumerate_1 _) (fun obj => F.args_object_init_2 obj _) F.entry_enumerate_new
    (meets_enum1 B) ⟨h1, ?_⟩
  have hz : (s.heap.push o).objs.size = s.heap.objs.size + 1 := Heap.size_push ..
  show _ ∧ _
  rw [hz]
  have he : IsEnum ((s.heap.push o).push { cls := .type "enumerate", data := .fields #[.none, .bool false, .ref s.heap.objs.size, rawInt 0, .none, .none] }) (s.heap.objs.size + 1) s.heap.objs.size 0 .none := by
    have := Heap.get?_push_size (s.heap.push o) (o := { cls := .type "enumerate", data := .fields #[.none, .bool false, .ref s.heap.objs.size, rawInt 0, .none, .none] }) rfl
    rw [hz] at this; exact this
  refine ⟨⟨_, he, rfl⟩, h _ he (Heap.get?_push_of_some _ (Heap.get?_push_size _ B.free)) (by rw [Heap.size_push, hz]) fun b o x => Heap.get?_push_of_some _ (Heap.get?_push_of_some _ x)⟩
/-- the tuple at a, each item in a new pair -/
def IteT (K : PySem.W.Frag) (a : Addr) : It :=
  ⟨fun i H => ∃ (xs : List V) (x : V), SqT K H a xs ∧ xs[i]? = some x, fun i H v H' => ∃ T x, v = .ref T ∧ H T = none ∧ H' = upd H T (.tup [.int (i : Nat), x]) ∧ ∀ xs, SqT K H a xs → xs[i]? = some x, fun i H => ∃ xs : List V, SqT K H a xs ∧ xs.length ≤ i⟩
theorem tuple_inj {X : Cx} {pins : List (Addr × Obj)} {σ : L2.St} {H : Hp} {s : Shared} {a : Addr} {xs ys : List V} (I : Inv X pins σ H s) (h : SqT X.K H a xs) (h2 : SqT X.K H a ys) : xs = ys := I.tuple_inj h h2
theorem turn_enumT {P : Program} {w : World} {K : PySem.W.Frag} {elts : List Expr} {kk : Nat} {tpos : Pos} (a e it : Addr) :
    Turn P w K (.Tuple elts kk tpos) (IteT K a) [e, it] e (fun i h => (∃ old, IsEnum h e it ((i : Nat) : Int) old) ∧ h.IsTupleIter it a i ∧ e ≠ it) where
  mem := by simp
  obj := fun i h st b hb => by
    obtain ⟨⟨old, he⟩, ⟨o, ho, hc, hd⟩, _⟩ := st
    have e' : b = e ∨ b = it := by simpa using hb
    rcases e' with z | z
    · rw [z]; exact ⟨_, he, fun v q => nomatch q⟩
    · rw [z]; exact ⟨o, ho, fun v q => by rw [hd] at q; cases q⟩
  keep := fun i h h' st k => let ⟨⟨old, he⟩, hi, hne⟩ := st; ⟨⟨old, k e (by simp) _ he⟩, hi.at fun o q => k it (by simp) o q, hne⟩
  item := by
    intro X hP hw hK hc i pins s σ H E I hf st hg
    subst hP hw hK
    obtain ⟨⟨old, he⟩, hit, hne⟩ := st
    obtain ⟨xs, x, hq, hx⟩ := hg
    obtain ⟨its, rv, p, hz⟩ := I.tuple hq
    obtain ⟨u, hu, ru⟩ := rv.get hx
    have hel : e < s.heap.objs.size := Heap.lt_size he
    have hil : it < s.heap.objs.size := by obtain ⟨_, q, _⟩ := hit; exact Heap.lt_size q
    have hat : a ≠ it := fun z => by
      subst z
      obtain ⟨o1, q1, q2, _⟩ := hit
      obtain ⟨o2, q3, q4, _⟩ := p
      rw [q1] at q3; cases q3
      rw [q2] at q4
      exact absurd q4 (by decide)
    have hae : e ∉ [it, a] := fun hm => by
      rcases List.mem_cons.mp hm with z | z
      · exact hne z
      · have z : e = a := by simpa using z
        subst z
        obtain ⟨o2, q3, q4, _⟩ := p
        rw [he] at q3; cases q3
        exact absurd q4 (show ¬ Value.type "enumerate" = Value.type "tuple" by decide)
    have hlt : i < its.toArray.size := by
      have := (List.getElem?_eq_some_iff.mp hu).1
      simpa using this
    refine wpAny_pyNext_enum_itemC (Draws.tuple (A := X.A.in1) (I.ok.hd hc) it a hat its.toArray) he ⟨hit, p⟩ hlt hne hae fun y h' tk hy ho hst hT hsz hk => ?_
    have ey : y = u := by
      have e1 : its.toArray[i]? = some y := hy
      rw [List.getElem?_toArray, hu] at e1
      exact (Option.some.inj e1).symm
    subst ey
    refine ⟨_, rfl, wpAny_letOwnedTupleGo_enum (s := { s with heap := h', toks := tk + 1 }) ho fun h'' he' sb => ?_⟩
    have hT2 : h''.get? s.heap.objs.size = some { cls := .type "tuple", data := .seq #[.int i tk, y] } := (sb.2 _ (Nat.ne_of_gt hel)).trans hT
    have new : ObjOk X.prog X.w (upd H s.heap.objs.size (.tup [.int (i : Nat), x])) h'' s.heap.objs.size (.tup [.int (i : Nat), x]) :=
      ⟨by show 2 ≤ sizeLine; decide, [.int i tk, y], .cons ⟨_, rfl⟩ (.cons ru .nil), ⟨_, hT2, rfl, _, rfl⟩⟩
    have I1 : Inv X pins σ (upd H s.heap.objs.size (.tup [.int (i : Nat), x])) { s with heap := h'', toks := tk + 1 } :=
      I.turnedNew (ch := [e, it]) (fun b ob hb q => (sb.2 b (fun z => hb (by simp [z]))).trans (hk b ob (fun z => hb (by simp [z])) (fun z => hb (by simp [z])) q)) hf (Nat.le_refl _) new
    refine ⟨.ref s.heap.objs.size, _, I1, rfl, ⟨_, x, rfl, I.hok.fresh (Nat.le_refl _), rfl, fun ys hy => by rw [I.tuple_inj hy hq]; exact hx⟩, ⟨⟨y, ?_⟩, hst.1.at fun o q => (sb.2 it (Ne.symm hne)).trans q, hne⟩, fun b hb => ?_⟩
    · have e1 : ((i + 1 : Nat) : Int) = (i : Int) + 1 := by omega
      rw [e1]; exact he'
    · have hb' : b < s.heap.objs.size := by
        have e' : b = e ∨ b = it := by simpa using hb
        rcases e' with z | z
        · rw [z]; exact hel
        · rw [z]; exact hil
      rw [upd_ne (Nat.ne_of_lt hb')]
      exact (hf b hb).1
  done := by
    intro X hP hw hK hc i pins s σ H E I hf st hg
    subst hP hw hK
    obtain ⟨⟨old, he⟩, hit, hne⟩ := st
    obtain ⟨xs, hq, hx⟩ := hg
    obtain ⟨its, rv, p, hz⟩ := I.tuple hq
    obtain ⟨f0, f1, f2, f3, f4, f5⟩ := hf it (by simp)
    have hl := rv.length
    have hat : a ≠ it := fun z => by
      subst z
      obtain ⟨o1, q1, q2, _⟩ := hit
      obtain ⟨o2, q3, q4, _⟩ := p
      rw [q1] at q3; cases q3
      rw [q2] at q4
      exact absurd q4 (by decide)
    have D : Draws X.prog X.w X.A.in1 it [it, a] 0 (fun _ _ => False) (fun _ h => h.IsTupleIter it a i ∧ h.IsTuple a its.toArray) :=
      ⟨fun _ _ st => let ⟨o, ho, _⟩ := st.1; ⟨o, ho⟩, fun _ _ _ st hk => ⟨st.1.at fun o e => hk it (by simp) o e, st.2.at fun o e => hk a (by simp) o e⟩, fun j s Q E hj st => absurd hj (Nat.not_lt_zero _),
        fun s Q E st hE => wpAny_nextOf_tuple_end (A := X.A.in1) (I.ok.hd hc) st.1 st.2 (by simp; omega) hE⟩
    exact wpAny_pyNext_enum_endD D he ⟨hit, p⟩ fun h' eb => ⟨rfl, I.turned (t' := s.toks) (fun b o hb q => eb b o hb q) f0 f1 f3 f4 f5⟩
  self := fun A i s Q E st h => let ⟨⟨_, he⟩, _⟩ := st; wpAny_pyIter_enum he h
def iEnumT (K : PySem.W.Frag) (ta : TA) : TI := fun σ H R => ta σ H fun vs H1 => ∃ a xs, vs = [.ref a] ∧ SqT K H1 a xs ∧ R (IteT K a) H1
theorem pi_enumT {X : Cx} {e : Expr} {ta : TA} {p pos tpos : Pos} {elts : List Expr} {kk : Nat} (hg : Gl X "enumerate") (hm : X.mg "enumerate" = none) (ha : PA X [e] ta) (hs : starEach [e] X.env = [(false, eval e X.env)] := by rfl) :
    PI X (.Tuple elts kk tpos) (.Call (.Name "enumerate" p) [e] [] pos) (iEnumT X.K ta) := by
  refine ⟨fun pins s σ H R I h => ?_⟩
  refine Call_ (ld_blt I hg hm boot_enumerate (PyProof.Rows.callWith_type1 (thn (ha.run pos pins s σ H _ I h) fun us s1 ⟨vs, H1, I1, r1, q1⟩ => ?_) hs rfl))
  obtain ⟨a, xs, ex, hq, q⟩ := q1
  subst ex
  cases r1 with
  | cons r rr =>
    cases rr
    cases r
    obtain ⟨its, rv, p', hz⟩ := I1.tuple hq
    refine enum1_begins (begins_tuple a its.toArray) p' fun h' he hit hsz hk => wpAny_pyIter_enum he ?_
    have I2 : Inv X pins σ H1 { s1 with heap := h' } := I1.kept (t' := s1.toks) hk
    refine ⟨s1.heap.objs.size + 1, [s1.heap.objs.size + 1, s1.heap.objs.size], _, _, H1, rfl, I2, turn_enumT a (s1.heap.objs.size + 1) s1.heap.objs.size, ⟨⟨.none, he⟩, ⟨_, hit, rfl, rfl⟩, Nat.succ_ne_self _⟩, fun b hb => ?_, q⟩
    have e' : b = s1.heap.objs.size + 1 ∨ b = s1.heap.objs.size := by simpa using hb
    have hle : s1.heap.objs.size ≤ b := by
      rcases e' with z | z
      · rw [z]; exact Nat.le_add_right _ _
      · rw [z]; exact Nat.le_refl _
    exact I1.fpOk hle (I1.hok.fresh hle)
theorem walk_enumT {K : PySem.W.Frag} {a : Addr} {xs : List V} : Walk (IteT K a) xs.length (fun H => SqT K H a xs) (YPair (fun i => some (.int (i : Nat))) (fun i => xs[i]?)) := by
  refine ⟨fun i _ hi q => ⟨xs, xs[i], q, by simp [hi]⟩, fun _ q => ⟨xs, q, Nat.le_refl _⟩, fun i H v H' _ q y => ?_⟩
  obtain ⟨T, x, h1, h2, h3, h4⟩ := y
  exact ⟨T, .int (i : Nat), x, h1, h2, h3, rfl, h4 xs q⟩
theorem src_enumT {E : Am} {F : Hp} {a : Addr} {vs : List V} {ds : List D} (h : SqT E.K F a vs) (r : RepL E F ds vs) : Src E F (IteT E.K a) (enumD 0 ds) := by
  refine ⟨_, _, by rw [enumD_len, r.len]; exact walk_enumT, fun H2 s => sqT_mono s h, fun i H2 x H3 F2 d e s1 s2 y => ?_⟩
  obtain ⟨T, x1, y1, e1, e2, e3, e4, e5⟩ := y
  obtain ⟨d', f1, f2⟩ := enumD_get e
  obtain ⟨d2, g1, g2⟩ := r.getV e5
  rw [f1] at g1; cases g1
  cases e4
  subst f2
  have z : (0 : Int) + (i : Int) = (i : Int) := by omega
  rw [z]
  exact src_pair s2 e2 e3 e1 rfl (Rep.mono s1 _ _ g2)
def pEnumT (q : Ev → Rs (List D)) : Ev → Rs (List D) := fun ρ => (q ρ).bind fun ds => match ds with | [.tup es] => .ok (enumD 0 es) | _ => .no
theorem xi_enumT {I : Type} {X : I → Cx} {E : Am} {W : WX} {k : Nat} {e : Expr} {p pos tpos : Pos} {elts : List Expr} {kk : Nat} {q : Ev → Rs (List D)} {cm : Bool} (c : CtxB X E W k cm) (hg : ∀ i, Gl (X i) "enumerate") (hm : ∀ i, (X i).mg "enumerate" = none) (ha : XA X E W [e] q) (hs : ∀ i, starEach [e] (X i).env = [(false, eval e (X i).env)] := by intro _; rfl) :
    XI X E W (.Tuple elts kk tpos) (.Call (.Name "enumerate" p) [e] [] pos) (pEnumT q) := by
  obtain ⟨t, h1, h2⟩ := ha
  refine ⟨iEnumT E.K t, fun i => by rw [← c.K i]; exact pi_enumT (hg i) (hm i) (h1 i) (hs i), fun B F H σ ρ Q s sb r post => ?_⟩
  show t σ H _
  refine Evals.seq h2 s sb r post fun F1 H1 ds vs e1 x1 sb1 r1 gg post1 => ?_
  split at post1
  · rename_i es
    obtain ⟨v, r', rfl, g1, g2⟩ := gg
    cases g2
    obtain ⟨a, us, rfl, q1, q2⟩ := g1
    exact ⟨a, us, rfl, sqT_mono x1.fh q1, ev_ok x1.fh post1 (src_enumT q1 q2)⟩
  · exact post1.elim
def enumOf : List D → Rs (List D)
  | [.tup es] => .ok (enumD 0 es)
  | [.lst es] => .ok (enumD 0 es)
  | [.kl es] => .ok (enumD 0 es)
  | _ => .no
def pEnum2 (q : Ev → Rs (List D)) : Ev → Rs (List D) := fun ρ => (q ρ).bind enumOf
theorem xi_enum2 {I : Type} {X : I → Cx} {E : Am} {W : WX} {k : Nat} {e : Expr} {p pos tpos : Pos} {elts : List Expr} {kk : Nat} {q : Ev → Rs (List D)} {cm : Bool} (c : CtxB X E W k cm) (hg : ∀ i, Gl (X i) "enumerate") (hm : ∀ i, (X i).mg "enumerate" = none) (ha : XA X E W [e] q) (hs : ∀ i, starEach [e] (X i).env = [(false, eval e (X i).env)] := by intro _; rfl) :
    XI X E W (.Tuple elts kk tpos) (.Call (.Name "enumerate" p) [e] [] pos) (pEnum2 q) := by
  obtain ⟨t, h1, h2⟩ := ha
  refine ⟨fun σ H R => iEnum E.K t σ H R ∨ iEnumT E.K t σ H R, fun i => by rw [← c.K i]; exact pi_or (pi_enum (hg i) (hm i) (h1 i) (hs i)) (pi_enumT (hg i) (hm i) (h1 i) (hs i)), fun B F H σ ρ Q s sb r post => ?_⟩
  cases eq : q ρ with
  | no =>
    replace post : Post E W σ F H _ Q ((q ρ).bind enumOf) := post
    rw [eq] at post; exact post.elim
  | err cc z =>
    replace post : Post E W σ F H _ Q ((q ρ).bind enumOf) := post
    rw [eq] at post
    exact .inl (h2 B F H σ ρ _ s sb r (by rw [eq]; exact post))
  | ok ds =>
    replace post : Post E W σ F H _ Q ((q ρ).bind enumOf) := post
    rw [eq] at post
    replace post : Post E W σ F H _ Q (enumOf ds) := post
    unfold enumOf at post
    split at post
    · rename_i es
      refine .inr (h2 B F H σ ρ _ s sb r ?_)
      rw [eq]
      intro F1 H1 vs x1 gg
      obtain ⟨v, r', rfl, g1, g2⟩ := gg
      cases g2
      obtain ⟨a, us, rfl, q1, q2⟩ := g1
      exact ⟨a, us, rfl, sqT_mono x1.fh q1, ev_ok x1.fh (Post.after x1 post) (src_enumT q1 q2)⟩
    · rename_i es
      refine .inl (h2 B F H σ ρ _ s sb r ?_)
      rw [eq]
      intro F1 H1 vs x1 gg
      obtain ⟨v, r', rfl, g1, g2⟩ := gg
      cases g2
      obtain ⟨a, us, rfl, q1, q2⟩ := repO_list (d := .lst es) (F := F1) (H := F1) (Same.refl F1) rfl (.inl g1)
      exact ⟨a, us, rfl, sqL_mono x1.fh q1, ev_ok x1.fh (Post.after x1 post) (src_enum q1 q2)⟩
    · rename_i es
      refine .inl (h2 B F H σ ρ _ s sb r ?_)
      rw [eq]
      intro F1 H1 vs x1 gg
      obtain ⟨v, r', rfl, g1, g2⟩ := gg
      cases g2
      obtain ⟨a, us, rfl, q1, q2⟩ := repO_list (d := .kl es) (F := F1) (H := F1) (Same.refl F1) rfl (.inl g1)
      exact ⟨a, us, rfl, sqL_mono x1.fh q1, ev_ok x1.fh (Post.after x1 post) (src_enum q1 q2)⟩
    · exact post.elim
end DL
end

section
set_option linter.all false
set_option maxRecDepth 100000
set_option maxHeartbeats 4000000
/-! x in c, x and the items tuples of data -/
namespace DL
open PySem PySem.Spec PyProof.Rows L2
section
variable {X : Cx}
def rInT (K : PySem.W.Frag) : R2 := fun x y H Q => ∃ d ds, Dp K H x d ∧ Dp K H y (.tuple ds) ∧ SeqAt.shaped d = true ∧ SeqAt.shaped (.tuple ds) = true ∧ Q (.bl (ds.any fun z => PyData.eqv z d)) H
def rNotInT (K : PySem.W.Frag) : R2 := fun x y H Q => ∃ d ds, Dp K H x d ∧ Dp K H y (.tuple ds) ∧ SeqAt.shaped d = true ∧ SeqAt.shaped (.tuple ds) = true ∧ Q (.bl (!ds.any fun z => PyData.eqv z d)) H
theorem op_inT (hu : X.A.units + 65 < cLine) : OpR X (compareOp .In) (rInT X.K) := by
  intro pins s σ H x y v u Q I rx ry h
  obtain ⟨d, ds, hd, he, sd, se, q⟩ := h
  obtain ⟨as, r1⟩ := Dp.reads I d x v hd rx
  obtain ⟨bs, r2⟩ := Dp.reads I (.tuple ds) y u he ry
  exact SeqAt.in_tuple_reads r2 r1 (SeqAt.canLay_of_shaped se) (SeqAt.canLay_of_shaped sd) (room_in_shaped sd hu) ⟨.bl _, H, I, rfl, q⟩
theorem op_notInT (hu : X.A.units + 65 < cLine) : OpR X (compareOp .NotIn) (rNotInT X.K) := by
  intro pins s σ H x y v u Q I rx ry h
  obtain ⟨d, ds, hd, he, sd, se, q⟩ := h
  obtain ⟨as, r1⟩ := Dp.reads I d x v hd rx
  obtain ⟨bs, r2⟩ := Dp.reads I (.tuple ds) y u he ry
  exact SeqAt.notIn_tuple_reads r2 r1 (SeqAt.canLay_of_shaped se) (SeqAt.canLay_of_shaped sd) (room_in_shaped sd hu) ⟨.bl _, H, I, rfl, q⟩
end
theorem any_py {x : D} : ∀ {ds : List D}, (toPyL ds).any (fun z => PyData.eqv z (toPy x)) = ds.any fun y => deq y x
  | [] => rfl
  | d :: ds => by
    show (PyData.eqv (toPy d) (toPy x) || (toPyL ds).any _) = (deq d x || ds.any _)
    rw [any_py]; rfl
/-- in, the items flat or nested -/
def fIn2 (neg : Bool) : D → D → Rs D
  | .str x, .str z => .ok (.bl (neg ^^ strIn x z))
  | x, c => match items c with
    | some ds => if flat x && ds.all flat then .ok (.bl (neg ^^ ds.any fun y => deq y x)) else if shp x && shp c then .ok (.bl (neg ^^ ds.any fun y => deq y x)) else .no
    | none => .no
variable {E : Am}
def rIn4 (K : PySem.W.Frag) : R2 := fun x y H Q => rInA K x y H Q ∨ (rInD K x y H Q ∨ rInT K x y H Q)
def rNotIn4 (K : PySem.W.Frag) : R2 := fun x y H Q => rNotInA K x y H Q ∨ (rNotInD K x y H Q ∨ rNotInT K x y H Q)
theorem dp_items {F H : Hp} (s : Same F H) {c : D} {ds : List D} {v : V} (e : items c = some ds) (hs : shp c = true) (h : RepO E F H c v) : (Dp E.K H v (.list (toPyL ds)) ∧ SeqAt.shaped (.list (toPyL ds)) = true) ∨ (Dp E.K H v (.tuple (toPyL ds)) ∧ SeqAt.shaped (.tuple (toPyL ds)) = true) := by
  have z := RepO.dp s (SeqAt.canLay_of_shaped hs) h
  cases c <;> simp [items] at e <;> subst e
  · exact .inr ⟨z, hs⟩
  · exact .inl ⟨z, hs⟩
  · exact .inl ⟨z, hs⟩
theorem ops_in2 : OpS E (rIn4 E.K) (fIn2 false) := by
  intro W F H σ dx dy x y Q s h1 h2 post
  unfold fIn2 at post
  split at post
  · exact .inl (ops_in W F H σ _ _ x y Q s h1 h2 post)
  · rename_i no
    split at post
    · rename_i ds e
      by_cases c : (flat dx && ds.all flat) = true
      · rw [if_pos c] at post
        refine .inl (ops_in W F H σ dx dy x y Q s h1 h2 ?_)
        unfold fIn
        split
        · rename_i a b; exact absurd rfl (no a b rfl)
        · rw [e]; simp only; rw [if_pos c]; exact post
      · rw [if_neg c] at post
        by_cases c2 : (shp dx && shp dy) = true
        · rw [if_pos c2] at post
          obtain ⟨s1, s2⟩ := Bool.and_eq_true_iff.mp c2
          have d1 := RepO.dp s (SeqAt.canLay_of_shaped s1) h1
          have q : Q (.bl ((toPyL ds).any fun z => PyData.eqv z (toPy dx))) H := by
            rw [any_py]
            have := ev_ok s post rfl
            simpa using this
          rcases dp_items s e s2 h2 with ⟨d2, s3⟩ | ⟨d2, s3⟩
          · exact .inr (.inl ⟨_, _, d1, d2, s1, s3, q⟩)
          · exact .inr (.inr ⟨_, _, d1, d2, s1, s3, q⟩)
        · rw [if_neg c2] at post; exact post.elim
    · exact post.elim
theorem ops_notIn2 : OpS E (rNotIn4 E.K) (fIn2 true) := by
  intro W F H σ dx dy x y Q s h1 h2 post
  unfold fIn2 at post
  split at post
  · exact .inl (ops_notIn W F H σ _ _ x y Q s h1 h2 post)
  · rename_i no
    split at post
    · rename_i ds e
      by_cases c : (flat dx && ds.all flat) = true
      · rw [if_pos c] at post
        refine .inl (ops_notIn W F H σ dx dy x y Q s h1 h2 ?_)
        unfold fIn
        split
        · rename_i a b; exact absurd rfl (no a b rfl)
        · rw [e]; simp only; rw [if_pos c]; exact post
      · rw [if_neg c] at post
        by_cases c2 : (shp dx && shp dy) = true
        · rw [if_pos c2] at post
          obtain ⟨s1, s2⟩ := Bool.and_eq_true_iff.mp c2
          have d1 := RepO.dp s (SeqAt.canLay_of_shaped s1) h1
          have q : Q (.bl (!(toPyL ds).any fun z => PyData.eqv z (toPy dx))) H := by
            rw [any_py]
            have := ev_ok s post rfl
            simpa using this
          rcases dp_items s e s2 h2 with ⟨d2, s3⟩ | ⟨d2, s3⟩
          · exact .inr (.inl ⟨_, _, d1, d2, s1, s3, q⟩)
          · exact .inr (.inr ⟨_, _, d1, d2, s1, s3, q⟩)
        · rw [if_neg c2] at post; exact post.elim
    · exact post.elim
variable {I : Type} {X : I → Cx} {W : WX} {k : Nat}
theorem cmp_in2 {cm : Bool} (c : CtxB X E W k cm) : CmpR X E .In (fIn2 false) := ⟨_, fun i => by have := c.hu i; rw [← c.K i]; exact op_inA.or ((op_inD (by omega)).or (op_inT (by omega))), ops_in2⟩
theorem cmp_notIn2 {cm : Bool} (c : CtxB X E W k cm) : CmpR X E .NotIn (fIn2 true) := ⟨_, fun i => by have := c.hu i; rw [← c.K i]; exact op_notInA.or ((op_notInD (by omega)).or (op_notInT (by omega))), ops_notIn2⟩
end DL
end

section
set_option linter.all false
set_option maxRecDepth 100000
set_option maxHeartbeats 4000000
/-! try: .. except X: .. (one clause, no name) -/
namespace DL
open PySem PySem.Spec L2
section
variable {I : Type} {X : I → Cx} {E : Am} {W : WX} {k : Nat}
structure TrIx (X : I → Cx) (W' : WX) where
  i : I
  pn : List (Addr × Obj)
  xe : Value → Shared → Prop
  tk : Takes ((X i).tr pn xe) W'
  po : PassesOwn (model (X i).prog (X i).w) (X i).A (X i).env xe
abbrev TrF (X : I → Cx) (W' : WX) : TrIx X W' → Cx := fun j => (X j.i).tr j.pn j.xe
theorem Ctx.tr {cm : Bool} (c : CtxB X E W k cm) (W' : WX) : CtxB (TrF X W') E W' k cm := ⟨fun j => c.K j.i, fun h j => c.calm h j.i, fun h j => c.room h j.i, fun j => j.tk, fun j => j.po, fun j => c.unt j.i⟩
abbrev SuF (X : I → Cx) : I × Addr × Obj × List (Addr × Obj) → Cx := fun j => (X j.1).suite j.2.1 ((j.2.1, j.2.2.1) :: j.2.2.2)
def pTry (cat : Str → Option Bool) (p q : Ev → Fl) : Ev → Fl := fun ρ => match p ρ with
  | .err C z ρ1 => (match cat C with
    | some true => (match q ρ1 with
      | .err _ _ _ => .no
      | r => r)
    | some false => .err C z ρ1
    | none => .no)
  | r => r
theorem xs_try {x : Str} {np pos pos' : Pos} {body suite : List Stmt} {b₀ : Stmt} {p q : Ev → Fl} {cm : Bool} (c : CtxB X E W k cm) (cat : Str → Option Bool) (hs : ∀ i, (X i).stack = (X i).env :: (X i).outer) (hf : ∀ i, (X i).env.frame = some (X i).env.locals) (hc : ∀ i, Names (X i) x (.ref (E.cl x)))
    (hcat : ∀ C b, cat C = some b → PySem.W.exmOne E.K (.ref (E.cl C)) (.ref (E.cl x)) = some b)
    (hb : ∀ W' : WX, XSs (TrF X W') E W' body p) (hsu : XSs (SuF X) E W0 (b₀ :: suite) q) :
    XS X E W (.Try body [.ExceptHandler (some (.Name x np)) none (b₀ :: suite) pos'] [] [] pos) (pTry cat p q) := by
  obtain ⟨ts, s1, s2⟩ := hsu
  refine ⟨fun D σ H => (hb (wOnly E.K (.ref (E.cl x)) (fun _ _ _ => ts) W D)).choose D σ H, fun i => ?_, fun F0 B F H σ ρ Dn xx rr post => ?_⟩
  · have z := ps_try_only (X := X i) (tb := fun W' => (hb W').choose) (ts := fun _ _ _ => ts) (Wout := W) (pos := pos) (np := np) (pos' := pos') (hs i) (hf i) (hc i) (c.tk i) (fun W' pn xe tk po => (hb W').choose_spec.1 ⟨i, pn, xe, tk, po⟩) (fun a oe cls d pn _ _ => s1 (i, a, oe, pn))
    rw [c.K i] at z
    exact z
  · refine (hb (wOnly E.K (.ref (E.cl x)) (fun _ _ _ => ts) W Dn)).choose_spec.2 F0 B F H σ ρ Dn xx rr ?_
    unfold pTry at post
    cases e : p ρ with
    | nx ρ1 => rw [e] at post; exact post
    | rt d => rw [e] at post; exact post
    | bk ρ1 => rw [e] at post; exact post
    | ct ρ1 => rw [e] at post; exact post
    | no => rw [e] at post; exact post
    | err C z ρ1 =>
      rw [e] at post
      intro F' H' σ' cls dd x' r' ge
      obtain ⟨rfl, gx⟩ := ge
      cases ec : cat C with
      | none => simp only [ec] at post; exact post.elim
      | some b =>
        cases b with
        | true =>
          refine ⟨true, hcat C true ec, fun _ a _ => ?_, fun h => by cases h⟩
          simp only [ec] at post
          refine s2 F0 B F' H' σ' ρ1 Dn x' r' ?_
          cases eq : q ρ1 with
          | err _ _ _ => rw [eq] at post; exact post.elim
          | nx _ => rw [eq] at post; exact post
          | rt _ => rw [eq] at post; exact post
          | bk _ => rw [eq] at post; exact post
          | ct _ => rw [eq] at post; exact post
          | no => rw [eq] at post; exact post
        | false =>
          refine ⟨false, hcat C false ec, fun h => absurd h Bool.false_ne_true, fun _ => ?_⟩
          simp only [ec] at post
          exact post F' H' σ' _ dd x' r' ⟨rfl, gx⟩
/-- the clause's answers by a list -/
theorem cat_nil {x : Str} : ∀ p ∈ ([] : List (Str × Bool)), PySem.W.exmOne E.K (.ref (E.cl p.1)) (.ref (E.cl x)) = some p.2 := fun p h => by cases h
theorem cat_cons {x C : Str} {b : Bool} {L : List (Str × Bool)} (h : PySem.W.exmOne E.K (.ref (E.cl C)) (.ref (E.cl x)) = some b) (t : ∀ p ∈ L, PySem.W.exmOne E.K (.ref (E.cl p.1)) (.ref (E.cl x)) = some p.2) : ∀ p ∈ (C, b) :: L, PySem.W.exmOne E.K (.ref (E.cl p.1)) (.ref (E.cl x)) = some p.2 := fun p hp => by
  rcases List.mem_cons.mp hp with z | z
  · rw [z]; exact h
  · exact t p z
theorem cat_ok {x : Str} : ∀ {L : List (Str × Bool)}, (∀ p ∈ L, PySem.W.exmOne E.K (.ref (E.cl p.1)) (.ref (E.cl x)) = some p.2) → ∀ C b, L.lookup C = some b → PySem.W.exmOne E.K (.ref (E.cl C)) (.ref (E.cl x)) = some b
  | [], _, C, b, e => by cases e
  | (D, d) :: L, h, C, b, e => by
    by_cases q : C = D
    · subst q
      have : some d = some b := by simpa [List.lookup] using e
      cases this
      exact h (C, d) List.mem_cons_self
    · have q2 : (C == D) = false := by simpa using q
      have e2 : L.lookup C = some b := by simpa [List.lookup, q2] using e
      exact cat_ok (fun p hp => h p (List.mem_cons_of_mem _ hp)) C b e2
end
end DL
end

section
set_option linter.all false
set_option maxRecDepth 100000
set_option maxHeartbeats 4000000
/-! own dicts with keys that are tuples of ints and texts, or ints and texts themselves: {}, d[k] = v, list(d) -/
namespace DL
open PySem PySem.Spec L2
def keyD : Key → D | .inl i => .int i | .inr x => .str x
def dKey : D → Option Key | .int i => some (.inl i) | .str x => some (.inr x) | _ => none
def dKeys : List D → Option (List Key)
  | [] => some []
  | d :: ds => (dKey d).bind fun k => (dKeys ds).map fun ks => k :: ks
theorem dKey_rep {E : Am} {F : Hp} {d : D} {k : Key} {v : V} (e : dKey d = some k) (h : Rep E F d v) : v = kV k := by
  cases d <;> simp [dKey] at e <;> subst e <;> exact h
theorem dKeys_rep {E : Am} {F : Hp} : ∀ {ds : List D} {ks : List Key} {vs : List V}, dKeys ds = some ks → RepL E F ds vs → vs = ks.map kV
  | [], ks, vs, e, h => by
    cases e; cases h; rfl
  | d :: ds, ks, vs, e, h => by
    obtain ⟨v, r, rfl, h1, h2⟩ := h
    obtain ⟨k, e1, e2⟩ := Option.bind_eq_some_iff.mp e
    obtain ⟨ks', e3, e4⟩ := Option.map_eq_some_iff.mp e2
    subst e4
    rw [dKey_rep e1 h1, dKeys_rep e3 h2]; rfl
theorem keyD_rep {E : Am} {F : Hp} (k : Key) : Rep E F (keyD k) (kV k) := by cases k <;> rfl
theorem keysD_rep {E : Am} {F : Hp} : ∀ ks : List Key, RepL E F (ks.map keyD) (ks.map kV)
  | [] => rfl
  | k :: ks => .cons (keyD_rep k) (keysD_rep ks)
/-! ### the parts of a dict -/
section
variable {κ α β : Type} [DecidableEq κ]
def putKs (ks : List κ) (k : κ) : List κ := if k ∈ ks then ks else ks ++ [k]
def putVs (ks : List κ) (vs : List α) (k : κ) (v : α) : List α := if k ∈ ks then (ks.zip vs).map (fun p => if p.1 = k then v else p.2) else vs ++ [v]
theorem any_mem (k : κ) (v : α) : ∀ {ks : List κ} {vs : List α}, ks.length = vs.length → (((ks.zip vs).any fun p => decide (p.1 = k)) = true ↔ k ∈ ks)
  | [], [], _ => by simp
  | a :: ks, b :: vs, h => by
    have ih := any_mem k v (ks := ks) (vs := vs) (by simpa using h)
    rw [List.zip_cons_cons, List.any_cons, Bool.or_eq_true, ih, List.mem_cons]
    constructor
    · rintro (q | q)
      · exact .inl (of_decide_eq_true q).symm
      · exact .inr q
    · rintro (q | q)
      · exact .inl (decide_eq_true q.symm)
      · exact .inr q
theorem map_zip {k : κ} {v : V} : ∀ {ks : List κ} {vs : List V}, ks.length = vs.length → (ks.zip vs).map (fun kv => if kv.1 = k then (kv.1, v) else kv) = ks.zip ((ks.zip vs).map fun p => if p.1 = k then v else p.2)
  | [], [], _ => rfl
  | a :: ks, b :: vs, h => by
    have ih := map_zip (k := k) (v := v) (ks := ks) (vs := vs) (by simpa using h)
    rw [List.zip_cons_cons, List.map_cons, List.map_cons, List.zip_cons_cons, ih]
    by_cases q : a = k
    · simp [q]
    · simp [q]
theorem put_zip {ks : List κ} {vs : List V} {k : κ} {v : V} (h : ks.length = vs.length) : putK (ks.zip vs) k v = (putKs ks k).zip (putVs ks vs k v) := by
  unfold putK putKs putVs
  by_cases q : k ∈ ks
  · rw [if_pos ((any_mem k v h).mpr q), if_pos q, if_pos q]; exact map_zip h
  · rw [if_neg (fun z => q ((any_mem k v h).mp z)), if_neg q, if_neg q, List.zip_append h]; rfl
theorem put_len {ks : List κ} {vs : List α} {k : κ} {v : α} (h : ks.length = vs.length) : (putKs ks k).length = (putVs ks vs k v).length := by
  unfold putKs putVs
  by_cases q : k ∈ ks
  · rw [if_pos q, if_pos q, List.length_map, List.length_zip]; omega
  · rw [if_neg q, if_neg q, List.length_append, List.length_append, h]; rfl
theorem put_repM {E : Am} {F : Hp} {k : κ} {d : D} {v : V} (hd : Rep E F d v) : ∀ {ks : List κ} {ds : List D} {vs : List V}, RepL E F ds vs → RepL E F ((ks.zip ds).map fun p => if p.1 = k then d else p.2) ((ks.zip vs).map fun p => if p.1 = k then v else p.2)
  | [], _, _, _ => rfl
  | a :: ks, [], vs, h => by cases h; exact rfl
  | a :: ks, x :: ds, vs, h => by
    obtain ⟨u, r, rfl, h1, h2⟩ := h
    rw [List.zip_cons_cons, List.zip_cons_cons, List.map_cons, List.map_cons]
    refine .cons ?_ (put_repM hd h2)
    by_cases q : a = k
    · simp only [q, if_true]; exact hd
    · simp only [q, if_false]; exact h1
theorem put_rep {E : Am} {F : Hp} {ks : List κ} {ds : List D} {vs : List V} {k : κ} {d : D} {v : V} (h : RepL E F ds vs) (hd : Rep E F d v) : RepL E F (putVs ks ds k d) (putVs ks vs k v) := by
  unfold putVs
  by_cases q : k ∈ ks
  · rw [if_pos q, if_pos q]; exact put_repM hd h
  · rw [if_neg q, if_neg q]; exact h.append (.cons hd rfl)
end
section
variable {I : Type} {X : I → Cx} {E : Am} {W : WX} {k : Nat}
/-! ### {} -/
theorem xn_dnewT {pos : Pos} : XN X E W (.Dict [] [] pos) (pC (.dt [] [])) :=
  ⟨_, fun _ => pe_dnewT, fun B F H σ ρ Q s sb r post p hp => post F _ _ (Ext.newH s hp) ⟨p, _, rfl, hp, s.free hp, upd_same, [], rfl, rfl, rfl⟩⟩
theorem xn_dnewK {pos : Pos} : XN X E W (.Dict [] [] pos) (pC (.dk [] [])) :=
  ⟨_, fun _ => pe_dnewK, fun B F H σ ρ Q s sb r post p hp => post F _ _ (Ext.newH s hp) ⟨p, _, rfl, hp, s.free hp, upd_same, [], rfl, rfl, rfl⟩⟩
/-! ### d[(..)] = v, d an own dict -/
def pDPutT (i : Nat) (pv : Ev → Rs D) (pk : Ev → Rs (List D)) : Ev → Fl := fun ρ => match ρ[i]? with
  | some (.own (.dt ks ds)) => pWith pv (fun d => pWith pk fun kd ρ => match dKeys kd with
    | some key => if ks.length < sizeLine ∧ kd.length ≤ sizeLine then .nx (ρ.set i (.own (.dt (putKs ks key) (putVs ks ds key d)))) else .no
    | none => .no) ρ
  | _ => .no
theorem xs_dputT {i : Nat} {o value : Expr} {es : List Expr} {kk : Nat} {pv : Ev → Rs D} {pk : Ev → Rs (List D)} {kpos pos' pos : Pos} {cm : Bool} (c : CtxB X E W k cm) (ho : ∀ j, PE (X j) o (tVar i)) (hv : XE X E W value pv) (hk : XA X E W es pk)
    (hs : ∀ j, swapsWith value (some (.Subscript o (.Tuple es kk kpos) pos')) pos.line (X j).env = pure false := by intro _; rfl) : XS X E W (.Assign [.Subscript o (.Tuple es kk kpos) pos'] value pos) (pDPutT i pv pk) := by
  obtain ⟨tv, v1, v2⟩ := hv
  obtain ⟨tk, k1, k2⟩ := hk
  refine ⟨_, fun j => ps_dput (by have := c.hu j; omega) (ho j) (pe_tup (k1 j)) (v1 j) (hs j), fun F0 B F H σ ρ Dn x r post => ?_⟩
  unfold pDPutT at post
  split at post
  · rename_i ks ds q
    show tv σ H _
    refine Does.eval v2 x r post fun F1 H1 d v x1 x2 r2 g post1 => ?_
    obtain ⟨l, ho', s1, s2, s3, s4, vs, rfl, s5, s6⟩ := r2.own i _ q
    refine ⟨_, s1, ?_⟩
    show tk σ H1 _
    refine Does.eval k2 x2 r2 post1 fun F2 H2 kd kvs x3 x4 r3 g2 post2 => ?_
    split at post2
    · rename_i key ek
      by_cases cz : ks.length < sizeLine ∧ kd.length ≤ sizeLine
      · rw [if_pos cz] at post2
        refine ⟨by rw [← g2.len]; exact cz.2, fun p hp => ?_⟩
        obtain rfl := dKeys_rep ek g2
        have xp := Ext.new (o := .tup (key.map kV)) x4.fh hp
        have hl2 : H2 l = some (.dT (ks.zip vs)) := x3.h _ _ s2
        have ne : l ≠ p := fun z => by rw [z, hp] at hl2; cases hl2
        have hl3 : (upd H2 p (.tup (key.map kV))) l = some (.dT (ks.zip vs)) := by rw [upd_ne ne]; exact hl2
        have hf : (upd F2 p (.tup (key.map kV))) l = none := by rw [upd_ne ne, x3.keep s2 (fun _ z => by cases z)]; exact s3
        have lv : ks.length = vs.length := by rw [s5, s6.len]
        have x5 := x4.trans xp
        refine ⟨l, _, rfl, DPut.t hl3 upd_same (by rw [List.length_zip, ← lv]; omega), ?_⟩
        refine post2 _ _ σ (x5.wr hf s4) ((r3.mono xp).write q s1 hf s4 ⟨_, by rw [put_zip lv], put_len s5, ?_⟩)
        have xm : Same F1 (upd F2 p (.tup (key.map kV))) := x3.f.trans xp.f
        exact put_rep (RepL.mono xm _ _ s6) (Rep.mono xm _ _ g)
      · rw [if_neg cz] at post2; exact post2.elim
    · exact post2.elim
  · exact post.elim
/-- the same, the key an int or a text -/
def pDPutK (i : Nat) (pv : Ev → Rs D) (pk : Ev → Rs D) : Ev → Fl := fun ρ => match ρ[i]? with
  | some (.own (.dk ks ds)) => pWith pv (fun d => pWith pk fun kd ρ => match dKey kd with
    | some key => if ks.length < sizeLine then .nx (ρ.set i (.own (.dk (putKs ks key) (putVs ks ds key d)))) else .no
    | none => .no) ρ
  | _ => .no
theorem xs_dputK {i : Nat} {o e value : Expr} {pv : Ev → Rs D} {pk : Ev → Rs D} {pos' pos : Pos} {cm : Bool} (c : CtxB X E W k cm) (ho : ∀ j, PE (X j) o (tVar i)) (hv : XE X E W value pv) (hk : XE X E W e pk)
    (hs : ∀ j, swapsWith value (some (.Subscript o e pos')) pos.line (X j).env = pure false := by intro _; rfl) : XS X E W (.Assign [.Subscript o e pos'] value pos) (pDPutK i pv pk) := by
  obtain ⟨tv, v1, v2⟩ := hv
  obtain ⟨tk, k1, k2⟩ := hk
  refine ⟨_, fun j => ps_dput (by have := c.hu j; omega) (ho j) (k1 j) (v1 j) (hs j), fun F0 B F H σ ρ Dn x r post => ?_⟩
  unfold pDPutK at post
  split at post
  · rename_i ks ds q
    show tv σ H _
    refine Does.eval v2 x r post fun F1 H1 d v x1 x2 r2 g post1 => ?_
    obtain ⟨l, ho', s1, s2, s3, s4, vs, rfl, s5, s6⟩ := r2.own i _ q
    refine ⟨_, s1, ?_⟩
    show tk σ H1 _
    refine Does.eval k2 x2 r2 post1 fun F2 H2 kd kv x3 x4 r3 g2 post2 => ?_
    split at post2
    · rename_i key ek
      by_cases cz : ks.length < sizeLine
      · rw [if_pos cz] at post2
        obtain rfl := dKey_rep ek g2
        have hl2 : H2 l = some (.dK (ks.zip vs)) := x3.h _ _ s2
        have hf : F2 l = none := by rw [x3.keep s2 (fun _ z => by cases z)]; exact s3
        have lv : ks.length = vs.length := by rw [s5, s6.len]
        refine ⟨l, _, rfl, DPut.k hl2 (by rw [List.length_zip, ← lv]; omega), ?_⟩
        refine post2 _ _ σ (x4.wr hf s4) (r3.write q s1 hf s4 ⟨_, by rw [put_zip lv], put_len s5, ?_⟩)
        exact put_rep (RepL.mono x3.f _ _ s6) (Rep.mono x3.f _ _ g)
      · rw [if_neg cz] at post2; exact post2.elim
    · exact post2.elim
  · exact post.elim
/-! ### list(d) -/
def keyT (ks : List Key) : D := .tup (ks.map keyD)
theorem keys_frz {F0 B H : Hp} : ∀ {kvs : List (List Key × V)} {bs : List Addr} {F : Hp}, IsKeys H kvs bs → Ext F0 B F H → ∃ F', Ext F0 B F' H ∧ Same F F' ∧ RepL E F' (kvs.map fun p => keyT p.1) (bs.map V.ref)
  | _, _, F, .nil, x => ⟨F, x, Same.refl F, rfl⟩
  | _, _, F, .cons (a := p) (b := b) h t, x => by
    obtain ⟨F', x', s', r'⟩ := keys_frz (kvs := _) (bs := _) t (x.frzT h)
    refine ⟨F', x', fun l u e => ?_, .cons ?_ r'⟩
    · refine s' l u ?_
      by_cases q : l = b
      · subst q; rw [upd_same]; rw [← x.fh _ _ e, h]
      · rw [upd_ne q]; exact e
    · exact ⟨b, _, rfl, SqT.of (s' b _ upd_same), keysD_rep _⟩
def fListDT : List D → Rs D | [.dt ks _] => .ok (.lst (ks.map keyT)) | _ => .no
theorem cals_listDT : CalS E (GN E) (fun xs H Q => ∃ d kvs, xs = [V.ref d] ∧ Rd H d (.dT kvs) ∧ ∀ p bs, H p = none → IsKeys H kvs bs → Q (.ref p) (upd H p (.lst (bs.map V.ref)))) fListDT := by
  intro W F H σ ds vs Q s h post
  unfold fListDT at post
  split at post
  · rename_i ks es
    obtain ⟨v, rfl, h1⟩ := rol1 h
    have key : ∃ a us, v = V.ref a ∧ H a = some (.dT (ks.zip us)) ∧ ks.length = us.length := by
      rcases h1 with ⟨a, us, h1, h2, h3, h4⟩ | ⟨l, ho, h1, h2, us, h3, h4, h5⟩
      · exact ⟨a, us, h1, s _ _ h2, by rw [h3, h4.len]⟩
      · exact ⟨l, us, h1, by rw [h2, h3], by rw [h4, h5.len]⟩
    obtain ⟨a, us, rfl, q1, q2⟩ := key
    refine ⟨a, _, rfl, .inl q1, fun p bs hp ik => ?_⟩
    obtain ⟨F', x', s', r'⟩ := keys_frz (E := E) ik (Ext.refl s)
    have e1 : ((ks.zip us).map fun p => keyT p.1) = ks.map keyT := by
      have : ((ks.zip us).map fun p => keyT p.1) = ((ks.zip us).map Prod.fst).map keyT := by rw [List.map_map]; rfl
      rw [this, List.map_fst_zip (by omega)]
    rw [e1] at r'
    exact post _ _ _ (x'.trans (Ext.newH x'.fh hp)) (gn_newL x'.fh (Same.refl H) hp r')
  · exact post.elim
theorem yn_listDT {mg : Str → Option Value} {e : Expr} {p pos : Pos} {q : Ev → Rs (List D)} (c : Ctx X E W k) (hn : mg "list" = none) (hm : ∀ i, (X i).mg "list" = mg "list") (hg : ∀ i, Gl (X i) "list") (ha : XAL X E W [e] q)
    (he : ∀ i, starEach [e] (X i).env = (false, eval e (X i).env) :: starEach [] (X i).env := by intro _; rfl) (hpl : ∀ i, (backTo pos (starEach [] (X i).env)).any (·.1) = false := by intro _; rfl) : XN X E W (.Call (.Name "list" p) [e] [] pos) (pCall fListDT q) :=
  xn_callTy (fun i => call_list_dT (c.calm rfl i)) cals_listDT hg (fun i => (hm i).trans hn) (by decide +kernel) ha (he := he) (hpl := hpl)
end
end DL
end

section
set_option linter.all false
set_option maxRecDepth 100000
set_option maxHeartbeats 4000000
/-! isinstance(x, C), x an instance of the own class C -/
namespace DL
open PySem PySem.Spec L2
def insB (C : Str) (K : PySem.W.Frag) : Bool := (He.Fa.cls C).ok K && (decide (PySem.W.findIn K (.ref (He.ga K C)) "__class__" = some (some (.builtin "object.__class__"))) && (decide (PySem.W.specialIn K (.builtin "object.__class__") "__get__" = some (some (.builtin "getset_descriptor.__get__"))) && (decide (PySem.W.takesIn K (.builtin "object.__class__") = some true) && (decide (PySem.W.mroIn K (He.ga K C) (.type "object") = some true) && decide (PySem.W.kitOne K (.ref (He.ga K C)) (.ref (He.ga K C)) = some true)))))
theorem insB_ok {C : Str} {K : PySem.W.Frag} (h : insB C K = true) : C8.InsC K (He.ga K C) := by
  obtain ⟨h1, h⟩ := Bool.and_eq_true_iff.mp h
  obtain ⟨h2, h⟩ := Bool.and_eq_true_iff.mp h
  obtain ⟨h3, h⟩ := Bool.and_eq_true_iff.mp h
  obtain ⟨h4, h⟩ := Bool.and_eq_true_iff.mp h
  obtain ⟨h5, h6⟩ := Bool.and_eq_true_iff.mp h
  exact ⟨He.cls_ok h1, of_decide_eq_true h2, of_decide_eq_true h3, of_decide_eq_true h4, of_decide_eq_true h5, of_decide_eq_true h6⟩
def pIsC (C : Str) (p : Ev → Rs D) : Ev → Rs D := fun ρ => (p ρ).bind fun d => match d with
  | .ins C' _ _ => if C' = C then .ok (.bl true) else .no
  | _ => .no
section
variable {I : Type} {X : I → Cx} {E : Am} {W : WX} {k : Nat}
theorem xe_isC {a : Expr} {C : Str} {p p2 pos : Pos} {pa : Ev → Rs D} {cm : Bool} (c : CtxB X E W k cm) (ic : C8.InsC E.K (E.cl C)) (hg : ∀ i, Gl (X i) "isinstance") (hm : ∀ i, (X i).mg "isinstance" = none) (hgC : ∀ i, Gl (X i) C) (gC : ∀ i, (X i).mg C = some (.ref (E.cl C))) (ha : XL X E W a pa)
    (hdb : (C == ("__debug__" : Str)) = false := by decide)
    (h1 : ∀ i, starEach [a, .Name C p2] (X i).env = (false, eval a (X i).env) :: starEach [.Name C p2] (X i).env := by intro _; rfl) (h2 : ∀ i, starEach [Expr.Name C p2] (X i).env = (false, eval (.Name C p2) (X i).env) :: starEach [] (X i).env := by intro _; rfl) (hpl : ∀ i, (backTo pos (starEach [Expr.Name C p2] (X i).env)).any (·.1) = false := by intro _; rfl) : XE X E W (.Call (.Name "isinstance" p) [a, .Name C p2] [] pos) (pIsC C pa) := by
  obtain ⟨t, a1, a2⟩ := ha
  refine ⟨tCB (fun xs H Q => ∃ a dx fs, xs = [.ref a, .ref (E.cl C)] ∧ H a = some (.ins (E.cl C) dx fs) ∧ Q (.bl true) H) (tCons t (tCons (tC (.ref (E.cl C))) tNil)), fun i => pe_callB (C8.call_isC (by rw [c.K i]; exact ic)) (hg i) (hm i) (by decide +kernel) (pa_cons (a1 i) (pa_cons (pe_glob (hgC i) (gC i) rfl hdb) pa_nil (h2 i)) (h1 i)) (he := h1 i) (hpl := hpl i), ?_⟩
  intro B F H σ ρ Q s sb r post
  show t σ H _
  refine Evals.seq a2 s sb r post fun F1 H1 d v e1 x1 sb1 r1 gg post1 => ?_
  split at post1
  · rename_i C' ns ds
    by_cases q : C' = C
    · rw [if_pos q] at post1; subst q
      obtain ⟨a, dx, vs, rfl, q1, q2, q3⟩ := repO_ins x1.fh gg
      exact ⟨a, dx, _, rfl, q1, ev_ok x1.fh post1 rfl⟩
    · rw [if_neg q] at post1; exact post1.elim
  · exact post1.elim
end
end DL
end

section
set_option linter.all false
set_option maxRecDepth 100000
set_option maxHeartbeats 4000000
/-! min, max of a list of alike data, with default= or without -/
namespace DL
open PySem PySem.Spec L2
mutual
/-- no list, dict or instance within: told by its datum -/
def pureD : D → Bool
  | .non => true | .bl _ => true | .int _ => true | .str _ => true
  | .tup ds => pureDL ds
  | _ => false
def pureDL : List D → Bool
  | [] => true
  | d :: ds => pureD d && pureDL ds
end
mutual
theorem pure_inj : ∀ (a b : D), pureD a = true → pureD b = true → toPy a = toPy b → a = b
  | .non, b, _, h, e => by cases b <;> first | rfl | (simp [toPy] at e) | (simp [pureD] at h)
  | .bl x, b, _, h, e => by cases b <;> first | (simp [toPy] at e; subst e; rfl) | (simp [toPy] at e) | (simp [pureD] at h)
  | .int x, b, _, h, e => by cases b <;> first | (simp [toPy] at e; subst e; rfl) | (simp [toPy] at e) | (simp [pureD] at h)
  | .str x, b, _, h, e => by cases b <;> first | (simp [toPy] at e; subst e; rfl) | (simp [toPy] at e) | (simp [pureD] at h)
  | .tup ds, b, h1, h, e => by
    cases b with
    | tup es =>
      have e' : PyData.tuple (toPyL ds) = .tuple (toPyL es) := e
      injection e' with e'
      rw [pureL_inj ds es h1 h e']
    | _ => first | (simp [toPy] at e; done) | (simp [pureD] at h; done)
  | .lst _, _, h, _, _ => by simp [pureD] at h
  | .kl _, _, h, _, _ => by simp [pureD] at h
  | .ins _ _ _, _, h, _, _ => by simp [pureD] at h
  | .dk _ _, _, h, _, _ => by simp [pureD] at h
  | .dt _ _, _, h, _, _ => by simp [pureD] at h
theorem pureL_inj : ∀ (as bs : List D), pureDL as = true → pureDL bs = true → toPyL as = toPyL bs → as = bs
  | [], [], _, _, _ => rfl
  | [], _ :: _, _, _, e => by simp [toPyL] at e
  | _ :: _, [], _, _, e => by simp [toPyL] at e
  | a :: as, b :: bs, h1, h2, e => by
    obtain ⟨p1, p2⟩ := Bool.and_eq_true_iff.mp (show (pureD a && pureDL as) = true from h1)
    obtain ⟨q1, q2⟩ := Bool.and_eq_true_iff.mp (show (pureD b && pureDL bs) = true from h2)
    have e' : toPy a :: toPyL as = toPy b :: toPyL bs := e
    injection e' with e1 e2
    rw [pure_inj a b p1 q1 e1, pureL_inj as bs p2 q2 e2]
end
def dLt (a b : D) : Bool := PySem.W.dataLt (toPy a) (toPy b)
def dGt (a b : D) : Bool := PySem.W.dataLt (toPy b) (toPy a)
def bestD (f : D → D → Bool) (x : D) (xs : List D) : D := xs.foldl (fun a y => if f y a then y else a) x
def bestOk (ds : List D) : Bool := alikeOk ds && (ds.all (fun d => !isN d) && (ds.all (fun d => shp d) && pureDL ds))
theorem best_py {f : PyData → PyData → Bool} : ∀ {xs : List D} {x : D}, (toPyL xs).foldl (fun a y => if f y a then y else a) (toPy x) = toPy (bestD (fun a b => f (toPy a) (toPy b)) x xs)
  | [], x => rfl
  | y :: ys, x => by
    show (toPyL ys).foldl _ (if f (toPy y) (toPy x) then toPy y else toPy x) = toPy (bestD _ (if f (toPy y) (toPy x) then y else x) ys)
    rw [← best_py]
    cases f (toPy y) (toPy x) <;> rfl
theorem best_mem {f : D → D → Bool} : ∀ {xs : List D} {x : D}, bestD f x xs = x ∨ bestD f x xs ∈ xs
  | [], x => .inl rfl
  | y :: ys, x => by
    show bestD f (if f y x then y else x) ys = x ∨ _
    rcases best_mem (f := f) (xs := ys) (x := if f y x then y else x) with h | h
    · cases e : f y x with
      | true =>
        rw [e, if_pos rfl] at h
        refine .inr ?_
        show bestD f (if f y x then y else x) ys ∈ y :: ys
        rw [e, if_pos rfl, h]; exact List.mem_cons_self
      | false =>
        rw [e, if_neg Bool.false_ne_true] at h
        exact .inl (by rw [if_neg Bool.false_ne_true]; exact h)
    · exact .inr (List.mem_cons_of_mem _ h)
theorem depth_all : ∀ {ds : List D}, ds.all (fun d => shp d) = true → PyData.depthAll (toPyL ds) ≤ 64
  | [], _ => Nat.zero_le _
  | d :: ds, h => by
    rw [List.all_cons, Bool.and_eq_true] at h
    have h1 := SeqAt.depth_of_shaped h.1
    have h2 := depth_all h.2
    show max (toPy d).depth (PyData.depthAll (toPyL ds)) ≤ 64
    omega
theorem alike_all {ds : List D} (h : bestOk ds = true) : PySem.W.AlikeAll (toPyL ds) := by
  obtain ⟨h1, h⟩ := Bool.and_eq_true_iff.mp h
  obtain ⟨h2, h⟩ := Bool.and_eq_true_iff.mp h
  rw [toPyL_map]
  refine ⟨fun d hd d' hd' => ?_, fun d hd => ?_⟩
  · obtain ⟨x, hx, rfl⟩ := List.mem_map.mp hd
    obtain ⟨y, hy, rfl⟩ := List.mem_map.mp hd'
    exact List.all_eq_true.mp (List.all_eq_true.mp h1 x hx) y hy
  · obtain ⟨x, hx, rfl⟩ := List.mem_map.mp hd
    have := List.all_eq_true.mp h2 x hx
    cases x <;> simp [toPy, isN] at this ⊢
theorem pureL_get : ∀ {ds : List D} {d : D}, pureDL ds = true → d ∈ ds → pureD d = true
  | x :: xs, d, h, hd => by
    obtain ⟨p1, p2⟩ := Bool.and_eq_true_iff.mp (show (pureD x && pureDL xs) = true from h)
    rcases List.mem_cons.mp hd with rfl | hd
    · exact p1
    · exact pureL_get p2 hd
def fBest (f : D → D → Bool) : List D → Rs D
  | [d] => (match itemsL d with | some (x :: xs) => if bestOk (x :: xs) then .ok (bestD f x xs) else .no | _ => .no)
  | _ => .no
abbrev fMin : List D → Rs D := fBest dLt
abbrev fMax : List D → Rs D := fBest dGt
def fBestD (f : D → D → Bool) : List D → Rs D
  | [d, z] => (match itemsL d with | some (x :: xs) => if bestOk (x :: xs) then .ok (bestD f x xs) else .no | some [] => .ok z | none => .no)
  | _ => .no
abbrev fMinD : List D → Rs D := fBestD dLt
abbrev fMaxD : List D → Rs D := fBestD dGt
def rBest (K : PySem.W.Frag) (g : PyData → PyData → Bool) : List V → Hp → VK → Prop := fun vs H Q => ∃ (a : Addr) (us : List V) (x : PyData) (xs : List PyData), vs = [.ref a] ∧ SqL K H a us ∧ DpAll K H us (x :: xs) ∧ PySem.W.AlikeAll (x :: xs) ∧ PyData.depthAll (x :: xs) ≤ 64 ∧ PyData.canLayAll0 (x :: xs) = true ∧
  ∀ i u, us[i]? = some u → (x :: xs).getD i .none = xs.foldl (fun a y => if g y a then y else a) x → Q u H
def rBestD (K : PySem.W.Frag) (g : PyData → PyData → Bool) : List V → List V → Hp → VK → Prop := fun vs zs H Q => ∃ (a : Addr) (us : List V) (ds : List PyData) (z : V), vs = [.ref a] ∧ zs = [z] ∧ SqL K H a us ∧ DpAll K H us ds ∧ PySem.W.AlikeAll ds ∧ PyData.depthAll ds ≤ 64 ∧ PyData.canLayAll0 ds = true ∧
  (ds = [] → Q z H) ∧ ∀ x xs i u, ds = x :: xs → us[i]? = some u → ds.getD i .none = xs.foldl (fun a y => if g y a then y else a) x → Q u H
theorem lay_at : ∀ {ds : List PyData} {i : Nat}, PyData.canLayAll0 ds = true → (ds.getD i .none).canLay0 = true
  | [], i, _ => by simp [PyData.canLay0]
  | d :: ds, 0, h => (Bool.and_eq_true_iff.mp (show (d.canLay0 && PyData.canLayAll0 ds) = true from h)).1
  | d :: ds, i + 1, h => lay_at (ds := ds) (i := i) (Bool.and_eq_true_iff.mp (show (d.canLay0 && PyData.canLayAll0 ds) = true from h)).2
/-- the item that came out is the one at its place -/
theorem best_here {h h' : Heap} {vs : Array Value} {ds : List PyData} {as bs : List Addr} {i : Nat} {v : Value} {m : PyData} (r : ReadsAll h vs.toList ds as) (l : PyData.canLayAll0 ds = true) (e : vs[i]? = some v) (kp : ∀ b o, h.get? b = some o → h'.get? b = some o) (rm : Reads h' v m bs) : ds.getD i .none = m := by
  obtain ⟨cs, q, _⟩ := PySem.W.readsAll_atA r i v e
  exact (Reads.unique (PySem.W.reads_keeps kp q) _ _ rm).1
theorem vals_get : ∀ {us : List V} {its : List Value} {i : Nat} {v : Value}, Vals us its → its[i]? = some v → ∃ u, us[i]? = some u ∧ RelV u v
  | [], its, i, v, h, e => by cases h; simp at e
  | u :: us, its, 0, v, h, e => by
    cases h with | cons r t => simp at e; subst e; exact ⟨u, rfl, r⟩
  | u :: us, its, i + 1, v, h, e => by
    cases h with | cons r t => exact vals_get (i := i) t (by simpa using e)
section
variable {Y : Cx}
theorem cr_minB (hc : Y.calm = true) (hu : Y.A.units + 200 < cLine) : CallR Y (.builtin "min") (rBest Y.K PySem.W.dataLt) := by
  intro pins s σ H vs us Q I r h
  obtain ⟨a, vs', x, xs, rfl, hs, hd, h1, h2, h3, q⟩ := h
  obtain ⟨its, rv, hl, hz⟩ := I.list hs
  rw [Vals.ref1 r]
  obtain ⟨ws, rd⟩ := Dp.readsAll I _ _ _ hd rv
  have rd' : ReadsAll s.heap its.toArray.toList (x :: xs) ws := by simpa using rd
  refine PySem.W.min_list_data (vs := its.toArray) (I.ok.hd hc) hl.isList rd' h1 (by omega) fun i v h' tk bs e1 e2 kp => ?_
  obtain ⟨u, f1, f2⟩ := vals_get rv (by simpa using e1)
  exact ⟨u, H, I.kept kp, f2, q i u f1 (best_here rd' h3 e1 kp e2)⟩
theorem cr_maxB (hc : Y.calm = true) (hu : Y.A.units + 200 < cLine) : CallR Y (.builtin "max") (rBest Y.K (fun a b => PySem.W.dataLt b a)) := by
  intro pins s σ H vs us Q I r h
  obtain ⟨a, vs', x, xs, rfl, hs, hd, h1, h2, h3, q⟩ := h
  obtain ⟨its, rv, hl, hz⟩ := I.list hs
  rw [Vals.ref1 r]
  obtain ⟨ws, rd⟩ := Dp.readsAll I _ _ _ hd rv
  have rd' : ReadsAll s.heap its.toArray.toList (x :: xs) ws := by simpa using rd
  refine PySem.W.max_list_data (vs := its.toArray) (I.ok.hd hc) hl.isList rd' h1 (by omega) fun i v h' tk bs e1 e2 kp => ?_
  obtain ⟨u, f1, f2⟩ := vals_get rv (by simpa using e1)
  exact ⟨u, H, I.kept kp, f2, q i u f1 (best_here rd' h3 e1 kp e2)⟩
theorem crk_minB (hc : Y.calm = true) (hu : Y.A.units + 200 < cLine) : CallRK Y (.builtin "min") [Str.ofString "default"] (rBestD Y.K PySem.W.dataLt) := by
  intro pins s σ H xs zs us ws Q I r r2 h
  obtain ⟨a, vs', ds, z, rfl, rfl, hs, hd, h1, h2, h3, q0, q⟩ := h
  obtain ⟨its, rv, hl, hz⟩ := I.list hs
  rw [Vals.ref1 r]
  obtain ⟨zv, rfl, rz⟩ := r2.one
  obtain ⟨ws, rd⟩ := Dp.readsAll I _ _ _ hd rv
  have rd' : ReadsAll s.heap its.toArray.toList ds ws := by simpa using rd
  refine PySem.W.min_list_default (vs := its.toArray) (I.ok.hd hc) hl.isList rd' h1 (by omega) (fun e h' tk kp => ⟨z, H, I.kept kp, rz, q0 e⟩) fun x xs i v h' tk bs e0 e1 e2 kp => ?_
  obtain ⟨u, f1, f2⟩ := vals_get rv (by simpa using e1)
  exact ⟨u, H, I.kept kp, f2, q x xs i u e0 f1 (best_here rd' h3 e1 kp e2)⟩
theorem crk_maxB (hc : Y.calm = true) (hu : Y.A.units + 200 < cLine) : CallRK Y (.builtin "max") [Str.ofString "default"] (rBestD Y.K (fun a b => PySem.W.dataLt b a)) := by
  intro pins s σ H xs zs us ws Q I r r2 h
  obtain ⟨a, vs', ds, z, rfl, rfl, hs, hd, h1, h2, h3, q0, q⟩ := h
  obtain ⟨its, rv, hl, hz⟩ := I.list hs
  rw [Vals.ref1 r]
  obtain ⟨zv, rfl, rz⟩ := r2.one
  obtain ⟨ws, rd⟩ := Dp.readsAll I _ _ _ hd rv
  have rd' : ReadsAll s.heap its.toArray.toList ds ws := by simpa using rd
  refine PySem.W.max_list_default (vs := its.toArray) (I.ok.hd hc) hl.isList rd' h1 (by omega) (fun e h' tk kp => ⟨z, H, I.kept kp, rz, q0 e⟩) fun x xs i v h' tk bs e0 e1 e2 kp => ?_
  obtain ⟨u, f1, f2⟩ := vals_get rv (by simpa using e1)
  exact ⟨u, H, I.kept kp, f2, q x xs i u e0 f1 (best_here rd' h3 e1 kp e2)⟩
end
section
variable {E : Am}
theorem getD_py : ∀ {ds : List D} {i : Nat}, i < ds.length → (toPyL ds).getD i .none = toPy (ds.getD i .non)
  | d :: ds, 0, _ => rfl
  | d :: ds, i + 1, h => getD_py (ds := ds) (i := i) (by simpa using h)
theorem best_at {g : PyData → PyData → Bool} {x : D} {xs : List D} {F : Hp} {us : List V} {i : Nat} {u : V} (p : pureDL (x :: xs) = true) (rp : RepL E F (x :: xs) us) (e1 : us[i]? = some u) (e2 : (toPyL (x :: xs)).getD i .none = (toPyL xs).foldl (fun a y => if g y a then y else a) (toPy x)) : Rep E F (bestD (fun a b => g (toPy a) (toPy b)) x xs) u := by
  obtain ⟨d, f1, f2⟩ := rp.getV e1
  have hi : i < (x :: xs).length := (List.getElem?_eq_some_iff.mp f1).1
  rw [getD_py hi, best_py] at e2
  have ed : (x :: xs).getD i .non = d := by simp [List.getD_eq_getElem?_getD, f1]
  rw [ed] at e2
  have m1 : d ∈ x :: xs := List.mem_of_getElem? f1
  have m2 : bestD (fun a b => g (toPy a) (toPy b)) x xs ∈ x :: xs := by
    rcases best_mem (f := fun a b => g (toPy a) (toPy b)) (xs := xs) (x := x) with h | h
    · rw [h]; exact List.mem_cons_self
    · exact List.mem_cons_of_mem _ h
  rw [← pure_inj d _ (pureL_get p m1) (pureL_get p m2) e2]
  exact f2
theorem cals_best {g : PyData → PyData → Bool} : CalS E (GS E) (rBest E.K g) (fBest fun a b => g (toPy a) (toPy b)) := by
  intro W F H σ ds vs Q s h post
  unfold fBest at post
  split at post
  · split at post
    · rename_i x xs e
      by_cases c : bestOk (x :: xs) = true
      · rw [if_pos c] at post
        obtain ⟨v, rfl, h1⟩ := rol1 h
        obtain ⟨a, us, rfl, q1, q2⟩ := repO_list s e h1
        have c' := c
        obtain ⟨_, c1⟩ := Bool.and_eq_true_iff.mp c'
        obtain ⟨_, c2⟩ := Bool.and_eq_true_iff.mp c1
        obtain ⟨c3, c4⟩ := Bool.and_eq_true_iff.mp c2
        exact ⟨a, us, _, _, rfl, q1, RepL.dp s (x :: xs) us (shpAll_lay c3) q2, alike_all c, depth_all c3, shpAll_lay c3, fun i u e1 e2 => ev_ok s post (best_at c4 q2 e1 e2)⟩
      · rw [if_neg c] at post; exact post.elim
    · exact post.elim
  · exact post.elim
theorem ev_bestD {g : PyData → PyData → Bool} {W : WX} {t : TE} {u : TE} {p q : Ev → Rs D} (h : Evals E W (GL E) t p) (h' : Evals E W (GS E) u q) :
    Evals E W (GS E) (tCKw (rBestD E.K g) (tCons t tNil) (tCons u tNil)) (fun ρ => (p ρ).bind fun x => (q ρ).bind fun y => fBestD (fun a b => g (toPy a) (toPy b)) [x, y]) := by
  intro B F H σ ρ Q s sb r post
  show t σ H _
  refine Evals.seq h s sb r post fun F1 H1 d v e1 x1 sb1 r1 g1 post1 => ?_
  show u σ H1 _
  refine Evals.seq h' x1.fh sb1 r1 post1 fun F2 H2 d2 v2 e2 x2 sb2 r2 g2 post2 => ?_
  have post3 : Post E W σ F2 H2 (GS E H) Q (match itemsL d with | some (x :: xs) => if bestOk (x :: xs) then .ok (bestD (fun a b => g (toPy a) (toPy b)) x xs) else .no | some [] => .ok d2 | none => .no) := post2
  cases e : itemsL d with
  | none => rw [e] at post3; exact (show False from post3).elim
  | some l =>
    cases l with
    | nil =>
      rw [e] at post3
      obtain ⟨a, us, rfl, q1, q2⟩ := repO_list x2.fh e (g1.mono x2)
      exact ⟨a, us, [], v2, rfl, rfl, q1, RepL.dp x2.fh [] us rfl q2, ⟨fun d hd _ _ => by simp at hd, fun d hd => by simp at hd⟩, Nat.zero_le _, rfl, fun _ => ev_ok x2.fh post3 g2, fun x xs i u e => by cases e⟩
    | cons x xs =>
      rw [e] at post3
      simp only at post3
      by_cases c : bestOk (x :: xs) = true
      · rw [if_pos c] at post3
        obtain ⟨a, us, rfl, q1, q2⟩ := repO_list x2.fh e (g1.mono x2)
        have c' := c
        obtain ⟨_, c1⟩ := Bool.and_eq_true_iff.mp c'
        obtain ⟨_, c2⟩ := Bool.and_eq_true_iff.mp c1
        obtain ⟨c3, c4⟩ := Bool.and_eq_true_iff.mp c2
        refine ⟨a, us, toPyL (x :: xs), v2, rfl, rfl, q1, RepL.dp x2.fh (x :: xs) us (shpAll_lay c3) q2, alike_all c, depth_all c3, shpAll_lay c3, fun e => by simp [toPyL] at e, fun y ys i u e0 e1 e2 => ?_⟩
        have e0' : toPy x :: toPyL xs = y :: ys := e0
        injection e0' with z1 z2
        subst z1; subst z2
        exact ev_ok x2.fh post3 (best_at c4 q2 e1 e2)
      · rw [if_neg c] at post3; exact (show False from post3).elim
end
section
variable {I : Type} {X : I → Cx} {E : Am} {W : WX} {k : Nat} {mg : Str → Option Value} {e : Expr} {p pos : Pos} {q : Ev → Rs (List D)}
theorem ye_min (c : Ctx X E W k) (hn : mg "min" = none) (hm : ∀ i, (X i).mg "min" = mg "min") (hg : ∀ i, Gl (X i) "min") (ha : XAL X E W [e] q)
    (he : ∀ i, starEach [e] (X i).env = (false, eval e (X i).env) :: starEach [] (X i).env := by intro _; rfl) (hpl : ∀ i, (backTo pos (starEach [] (X i).env)).any (·.1) = false := by intro _; rfl) : XE X E W (.Call (.Name "min" p) [e] [] pos) (pCall fMin q) :=
  xe_callB (r := rBest E.K PySem.W.dataLt) (id := "min") (fun i => by rw [← c.K i]; exact cr_minB (c.calm rfl i) (c.hu i)) (cals_best (g := PySem.W.dataLt)) hg (fun i => (hm i).trans hn) (by decide +kernel) ha (he := he) (hpl := hpl)
theorem ye_max (c : Ctx X E W k) (hn : mg "max" = none) (hm : ∀ i, (X i).mg "max" = mg "max") (hg : ∀ i, Gl (X i) "max") (ha : XAL X E W [e] q)
    (he : ∀ i, starEach [e] (X i).env = (false, eval e (X i).env) :: starEach [] (X i).env := by intro _; rfl) (hpl : ∀ i, (backTo pos (starEach [] (X i).env)).any (·.1) = false := by intro _; rfl) : XE X E W (.Call (.Name "max" p) [e] [] pos) (pCall fMax q) :=
  xe_callB (r := rBest E.K (fun a b => PySem.W.dataLt b a)) (id := "max") (fun i => by rw [← c.K i]; exact cr_maxB (c.calm rfl i) (c.hu i)) (cals_best (g := fun a b => PySem.W.dataLt b a)) hg (fun i => (hm i).trans hn) (by decide +kernel) ha (he := he) (hpl := hpl)
def pBestD (f : List D → Rs D) (p q : Ev → Rs D) : Ev → Rs D := fun ρ => (p ρ).bind fun x => (q ρ).bind fun y => f [x, y]
theorem ye_minD {pd qd : Ev → Rs D} {d : Expr} {kp : Pos} (c : Ctx X E W k) (hn : mg "min" = none) (hm : ∀ i, (X i).mg "min" = mg "min") (hg : ∀ i, Gl (X i) "min") (ha : XL X E W e pd) (hd : XE X E W d qd)
    (hs : ∀ i, starEach (e :: []) (X i).env = (false, eval e (X i).env) :: starEach [] (X i).env := by intro _; rfl)
    (he : ∀ i, backTo pos (starEach [e] (X i).env) = (false, eval e (X i).env) :: backTo pos (starEach [] (X i).env) := by intro _; rfl) (hpl : ∀ i, (backTo pos (starEach [e] (X i).env)).any (·.1) = false := by intro _; rfl)
    (hall : ∀ i, (backToKw pos (keywordEach [⟨some "default", d, kp⟩] (X i).env)).all (·.1.isSome) = true := by intro _; rfl) (hnone : ∀ i, (backToKw pos (keywordEach [⟨some "default", d, kp⟩] (X i).env)).any (·.1.isNone) = false := by intro _; rfl) (hks : ∀ i, (backToKw pos (keywordEach [⟨some "default", d, kp⟩] (X i).env)).filterMap (·.1) = [Str.ofString "default"] := by intro _; rfl) :
    XE X E W (.Call (.Name "min" p) [e] [⟨some "default", d, kp⟩] pos) (pBestD fMinD pd qd) := by
  obtain ⟨t, t1, t2⟩ := ha
  obtain ⟨u, u1, u2⟩ := hd
  exact ⟨tCKw (rBestD E.K PySem.W.dataLt) (tCons t tNil) (tCons u tNil), fun i => pe_callBK (by rw [← c.K i]; exact crk_minB (c.calm rfl i) (c.hu i)) (hg i) ((hm i).trans hn) (by decide +kernel) (pa_cons (t1 i) pa_nil (hs i)) (pk_cons (u1 i) pk_nil) (he := he i) (hpl := hpl i) (hall := hall i) (hnone := hnone i) (hks := hks i), ev_bestD t2 u2⟩
theorem ye_maxD {pd qd : Ev → Rs D} {d : Expr} {kp : Pos} (c : Ctx X E W k) (hn : mg "max" = none) (hm : ∀ i, (X i).mg "max" = mg "max") (hg : ∀ i, Gl (X i) "max") (ha : XL X E W e pd) (hd : XE X E W d qd)
    (hs : ∀ i, starEach (e :: []) (X i).env = (false, eval e (X i).env) :: starEach [] (X i).env := by intro _; rfl)
    (he : ∀ i, backTo pos (starEach [e] (X i).env) = (false, eval e (X i).env) :: backTo pos (starEach [] (X i).env) := by intro _; rfl) (hpl : ∀ i, (backTo pos (starEach [e] (X i).env)).any (·.1) = false := by intro _; rfl)
    (hall : ∀ i, (backToKw pos (keywordEach [⟨some "default", d, kp⟩] (X i).env)).all (·.1.isSome) = true := by intro _; rfl) (hnone : ∀ i, (backToKw pos (keywordEach [⟨some "default", d, kp⟩] (X i).env)).any (·.1.isNone) = false := by intro _; rfl) (hks : ∀ i, (backToKw pos (keywordEach [⟨some "default", d, kp⟩] (X i).env)).filterMap (·.1) = [Str.ofString "default"] := by intro _; rfl) :
    XE X E W (.Call (.Name "max" p) [e] [⟨some "default", d, kp⟩] pos) (pBestD fMaxD pd qd) := by
  obtain ⟨t, t1, t2⟩ := ha
  obtain ⟨u, u1, u2⟩ := hd
  exact ⟨tCKw (rBestD E.K (fun a b => PySem.W.dataLt b a)) (tCons t tNil) (tCons u tNil), fun i => pe_callBK (by rw [← c.K i]; exact crk_maxB (c.calm rfl i) (c.hu i)) (hg i) ((hm i).trans hn) (by decide +kernel) (pa_cons (t1 i) pa_nil (hs i)) (pk_cons (u1 i) pk_nil) (he := he i) (hpl := hpl i) (hall := hall i) (hnone := hnone i) (hks := hks i), ev_bestD t2 u2⟩
end
end DL
end

section
set_option linter.all false
set_option maxRecDepth 100000
set_option maxHeartbeats 4000000
/-! calls by keywords of defs with keyword-only parameters -/
namespace L2
open PySem PySem.Spec
def tCallNS (n m : Nat) (sp : Sp) (gV : List V → List V → List V) (E : St → XK) (t tk : TA) : TE := fun σ H Q => t σ H fun vs H1 => tk σ H1 fun zs H2 => vs.length = n ∧ zs.length = m ∧ sp (gV vs zs) H2 Q (E σ)
section
variable {X : Cx} {CX : CXT} {k n : Nat} {f : Addr} {fd : FuncData} {ps ks : List Str} {sp : Sp} {E : St → XK} {x : Str} {p pos : Pos} {e : Expr} {es : List Expr} {kws : List Keyword} {t tk : TA} {g : List Value → List Value → List Value} {gV : List V → List V → List V}
theorem pe_callNS (F : FnOk X.prog X.w X.K X.mg X.base CX k f fd ps sp) (hr : Room k X.A) (hg : Gl X x) (hm : X.mg x = some (.ref f)) (hk : PySem.W.keepIn X.K (.ref f) = true) (hb : KBn X.K fd ps n ks g gV) (hx : ∀ σ, PassesAt CX X σ (E σ))
    (ha : PA X (e :: es) t) (hkw : PK X kws tk) (hall : (backToKw pos (keywordEach kws X.env)).all (·.1.isSome) = true := by rfl) (hks : (backToKw pos (keywordEach kws X.env)).filterMap (·.1) = ks := by rfl)
    (hdb : (x == ("__debug__" : Str)) = false := by decide) (he : starEach (e :: es) X.env = (false, eval e X.env) :: starEach es X.env := by rfl)
    (hpl : ((backTo pos (starEach (e :: es) X.env)).any (·.1) || (backToKw pos (keywordEach kws X.env)).any (·.1.isNone)) = false := by rfl) :
    PE X (.Call (.Name x p) (e :: es) kws pos) (tCallNS n ks.length sp gV E t tk) := by
  refine ⟨fun pins s σ H Q I h => ?_⟩
  refine wpAny_Call_Name_kw (ld_glob I hg hm ?_ hdb)
  refine PySem.W.callWith_KW (h₀ := X.base) I.ok.mod.kin hk hall (thn (ha.run pos pins s σ H _ I h) fun us s1 ⟨vs, H1, I1, r, q⟩ => ?_) hpl he
  refine thn (hkw.run pos pins s1 σ H1 _ I1 q) fun ws s2 ⟨zs, H2, I2, rz, l1, l2, q2⟩ => ⟨I2.kIn, ?_⟩
  rw [hks]
  have r2 := hb.rel r rz
  refine wpAny_call (codeAny_mono (F.run X.A X.stack s2 H2 ⟨us, ks.zip ws⟩ (g us ws) (gV vs zs) Q (E σ) hr I2.env0 (hb.to s2 us ws I2.kIn (r.length.symm.trans l1) (rz.length.symm.trans l2)) r2 q2) fun r s' hq => ?_)
  cases r with
  | error e => exact hx σ pins H2 s2 e s' I2 hq
  | ok fl =>
    cases fl with
    | ret u => exact I2.after hq
    | next => exact False.elim hq
    | brk => exact False.elim hq
    | cont => exact False.elim hq
end
/-- no defaults at all -/
theorem FunD.kbindsN {K : PySem.W.Frag} {x qual : Str} {params : Arguments} {body : List Stmt} {scope : Scope} {f : Addr} {fd : FuncData} {ps : List Str} (F : FunD K x qual params body scope [] [] f fd) (n : Nat) (ks : List Str) (g : {α : Type} → List α → List α → List α)
    (hrel : ∀ {vs zs : List V} {us ws : List Value}, Vals vs us → Vals zs ws → Vals (g vs zs) (g us ws))
    (h : ∀ (kV doc pm : Value) (an : Option Addr) (cdv ct : Value) (us ws : List Value), us.length = n → ws.length = ks.length → bindArgs (PySem.W.fnOf x qual params body scope .none kV doc pm an cdv ct) ⟨us, ks.zip ws⟩ = pure (ps.zip (g us ws))) : KBn K fd ps n ks (fun us ws => g us ws) (fun vs zs => g vs zs) := by
  obtain ⟨oc, od, dV, kV, doc, pm, an, cdv, ct, osl, rfl, lk, hcd, hD, hK⟩ := F.ex
  rcases hD with ⟨_, rfl⟩ | ⟨e, _⟩
  · exact ⟨fun s us ws X l1 l2 => .of_eq (h kV doc pm an cdv ct us ws l1 l2), fun r1 r2 => hrel r1 r2⟩
  · exact absurd rfl e
end L2
namespace DL
open PySem PySem.Spec L2
/-- which of them, in the parameters' order: .inl i the i-th that lacks, .inr i the i-th keyword -/
def pickK {α : Type} (us mv ws : List α) : List (Nat ⊕ Nat) → List α
  | [] => us
  | s => us ++ s.flatMap fun z => match z with | .inl i => (mv.drop i).take 1 | .inr i => (ws.drop i).take 1
theorem take_vals {vs : List V} {us : List Value} (h : Vals vs us) : Vals (vs.take 1) (us.take 1) := by
  cases h with
  | nil => exact .nil
  | cons r t => exact .cons r .nil
theorem pick_vals {vs mz zs : List V} {us mv ws : List Value} (h1 : Vals vs us) (h2 : Vals mz mv) (h3 : Vals zs ws) : ∀ s, Vals (pickK vs mz zs s) (pickK us mv ws s)
  | [] => h1
  | a :: s => by
    refine h1.append ?_
    show Vals (List.flatMap _ (a :: s)) (List.flatMap _ (a :: s))
    generalize a :: s = l
    induction l with
    | nil => exact .nil
    | cons z l ih =>
      rw [List.flatMap_cons, List.flatMap_cons]
      refine Vals.append ?_ ih
      cases z with
      | inl i => exact take_vals (h2.drop i)
      | inr i => exact take_vals (h3.drop i)
theorem pick_rep {E : Am} {F : Hp} {ds dm dz : List D} {vs mz zs : List V} (h1 : RepL E F ds vs) (h2 : RepL E F dm mz) (h3 : RepL E F dz zs) : ∀ s, RepL E F (pickK ds dm dz s) (pickK vs mz zs s)
  | [] => h1
  | a :: s => by
    refine h1.append ?_
    show RepL E F (List.flatMap _ (a :: s)) (List.flatMap _ (a :: s))
    generalize a :: s = l
    induction l with
    | nil => exact rfl
    | cons z l ih =>
      rw [List.flatMap_cons, List.flatMap_cons]
      refine RepL.append ?_ ih
      cases z with
      | inl i => exact (h2.drop i).take 1
      | inr i => exact (h3.drop i).take 1
def pFnK (f : List D → Rs D) (n m : Nat) (dm : List D) (s : List (Nat ⊕ Nat)) (q kq : Ev → Rs (List D)) : Ev → Rs D := fun ρ => (q ρ).bind fun ds => (kq ρ).bind fun zs => if ds.length = n ∧ zs.length = m then f (pickK ds dm zs s) else .no
section
variable {I : Type} {X : I → Cx} {E : Am} {W : WX} {k : Nat}
def XK {I : Type} (X : I → Cx) (E : Am) (W : WX) (kws : List Keyword) (p : Ev → Rs (List D)) : Prop := ∃ t, (∀ i, PK (X i) kws t) ∧ Evals E W (GA E) t p
theorem evals_cons {ta : TE} {tl : TA} {p : Ev → Rs D} {q : Ev → Rs (List D)} (h : Evals E W (GS E) ta p) (h' : Evals E W (GA E) tl q) : Evals E W (GA E) (tCons ta tl) (pCons p q) := by
  intro B F H σ ρ Q s sb r post
  show ta σ H _
  refine Evals.seq h s sb r post fun F1 H1 d v e1 x1 sb1 r1 g1 post1 => ?_
  refine Evals.seq h' x1.fh sb1 r1 post1 fun F2 H2 ds vs e2 x2 sb2 r2 g2 post2 => ?_
  exact ev_ok x2.fh post2 (RepL.cons (Rep.mono x2.f _ _ g1) g2)
theorem xk_nil : XK X E W [] pNil := ⟨_, fun _ => pk_nil, fun B F H σ ρ Q s sb r post => ev_ok s post rfl⟩
theorem xk_cons {nm : Option Str} {e : Expr} {kp : Pos} {kws : List Keyword} {p : Ev → Rs D} {q : Ev → Rs (List D)} (h : XE X E W e p) (h' : XK X E W kws q) : XK X E W (⟨nm, e, kp⟩ :: kws) (pCons p q) := by
  obtain ⟨t, a, b⟩ := h
  obtain ⟨u, a', b'⟩ := h'
  exact ⟨_, fun i => pk_cons (a i) (a' i), evals_cons b b'⟩
theorem xe_callK {j n N m : Nat} {f : Addr} {fd : FuncData} {ps ks : List Str} {fn : List D → Rs D} {dm : List D} {mz : List V} {mv : List Value} {s : List (Nat ⊕ Nat)} {x : Str} {p pos : Pos} {e : Expr} {es : List Expr} {kws : List Keyword} {q kq : Ev → Rs (List D)} (c : Ctx X E W k)
    (G : ∀ i, FnOk (X i).prog (X i).w (X i).K (X i).mg (X i).base (L2.CX (X i).prog (X i).w) j f fd ps (spF E N fn)) (hj : j ≤ k) (hg : ∀ i, Gl (X i) x) (hm : ∀ i, (X i).mg x = some (.ref f)) (hk : PySem.W.keepIn E.K (.ref f) = true) (hb : KBn E.K fd ps n ks (fun us ws => pickK us mv ws s) (fun vs zs => pickK vs mz zs s)) (hD : ∀ F, RepL E F dm mz) (ha : XA X E W (e :: es) q) (hkw : XK X E W kws kq)
    (hdb : (x == ("__debug__" : Str)) = false := by decide) (hall : ∀ i, (backToKw pos (keywordEach kws (X i).env)).all (·.1.isSome) = true := by intro _; rfl) (hks : ∀ i, (backToKw pos (keywordEach kws (X i).env)).filterMap (·.1) = ks := by intro _; rfl)
    (he : ∀ i, starEach (e :: es) (X i).env = (false, eval e (X i).env) :: starEach es (X i).env := by intro _; rfl) (hpl : ∀ i, ((backTo pos (starEach (e :: es) (X i).env)).any (·.1) || (backToKw pos (keywordEach kws (X i).env)).any (·.1.isNone)) = false := by intro _; rfl)  (hml : ks.length = m := by rfl) :
    XE X E W (.Call (.Name x p) (e :: es) kws pos) (pFnK (arity N fn) n m dm s q kq) := by
  subst hml
  obtain ⟨t, a1, a2⟩ := ha
  obtain ⟨u, b1, b2⟩ := hkw
  refine ⟨tCallNS n ks.length (spF E N (arity N fn)) (fun vs zs => pickK vs mz zs s) (WE W) t u, fun i => pe_callNS ((G i).imp fun vs H Q Ex h => sp_arity h) ((c.room rfl i).mono hj) (hg i) (hm i) (by rw [c.K i]; exact hk) (by rw [c.K i]; exact hb) (fun σ => passAt (c.tk i) σ) (a1 i) (b1 i) (hall i) (hks i) hdb (he i) (hpl i), ?_⟩
  intro B F H σ ρ Q s0 sb r post
  show t σ H _
  refine Evals.seq a2 s0 sb r post fun F1 H1 ds vs e1 x1 sb1 r1 g1 post1 => ?_
  show u σ H1 _
  refine Evals.seq b2 x1.fh sb1 r1 post1 fun F2 H2 zd zs e2 x2 sb2 r2 g2 post2 => ?_
  by_cases cz : ds.length = n ∧ zd.length = ks.length
  · rw [if_pos cz] at post2
    refine ⟨by rw [← g1.len]; exact cz.1, by rw [← g2.len]; exact cz.2, ?_⟩
    rcases arity_n (n := N) (f := fn) (pickK ds dm zd s) _ rfl with z | z
    · rw [z] at post2; exact post2.elim
    · exact ⟨F2, pickK ds dm zd s, x2.fh, pick_rep (RepL.mono x2.f _ _ g1) (hD F2) g2 s, z, post_fn post2⟩
  · rw [if_neg cz] at post2; exact post2.elim
/-- the promise of such a def -/
structure FnK (P : Program) (w : World) (E : Am) (mg : Str → Option Value) (base : Heap) (k : Nat) (f : Addr) (ps : List Str) (fn : List D → Rs D) (B : FuncData → Prop) : Prop where
  ex : ∃ fd, FnOk P w E.K mg base (L2.CX P w) k f fd ps (spF E ps.length fn) ∧ B fd ∧ PySem.W.keepIn E.K (.ref f) = true
def BindD (E : Am) (ps : List Str) (dm : List D) (fd : FuncData) : Prop := ∃ ds dvs, Vals dvs ds ∧ Binds E.K fd ps ds ∧ ∀ F, RepL E F dm dvs
def BindK (E : Am) (ps : List Str) (n : Nat) (ks : List Str) (dm : List D) (s : List (Nat ⊕ Nat)) (fd : FuncData) : Prop := ∃ (mz : List V) (mv : List Value), KBn E.K fd ps n ks (fun us ws => pickK us mv ws s) (fun vs zs => pickK vs mz zs s) ∧ ∀ F, RepL E F dm mz
theorem fnK_mk {P : Program} {w : World} {E : Am} {mg : Str → Option Value} {base : Heap} {x qual : Str} {params : Arguments} {body : List Stmt} {sc : Scope} {dvs : List V} {kws : List (Str × V)} {f : Addr} {fd : FuncData} {N ps : List Str} {k m : Nat} {p : Ev → Fl} {fn : List D → Rs D} {B : FuncData → Prop} (F : FunD E.K x qual params body sc dvs kws f fd) (S : FnScope N ps sc) (hm : N.length = m) (hfn : fn = runF m p)
    (b : B fd) (hb : ∀ (cdv : Value) (A : Around) (outer : List Env) (s : Shared) (H : Hp) (Ex : L2.XK), Room k (A.deeper (PyProof.Rows.envOfC qual sc s.heap.objs.size f cdv)) → XSs (Bd P w E mg base N qual sc f cdv A outer s H Ex) E (WF Ex) body p) : FnK P w E mg base (k + 1) f ps fn B := by
  subst hm hfn
  exact ⟨fd, fn_okD F S hb, b, F.kp⟩
end
end DL
end

section
set_option linter.all false
/-! a comprehension within a comprehension: the outer block's scope -/
namespace DL
open PySem PySem.Spec L2
abbrev relS (s sc : Scope) : Scope := relabel s (PyProof.Rows.envOfC "" sc 0 0 .none)
end DL
end

section
set_option linter.all false
set_option maxRecDepth 100000
set_option maxHeartbeats 4000000
/-! the law's def where no repr is under way: repr of data -/
namespace L2
open PySem PySem.Spec PyProof.Rows
/-- a def's promise where nothing guards the stack -/
structure RunG (P : Program) (w : World) (K : PySem.W.Frag) (mg : Str → Option Value) (base : Heap) (CX : CXT) (k : Nat) (f : Addr) (fd : FuncData) (ps : List Str) (sp : Sp) : Prop where
  run : ∀ (A : Around) (outer : List Env) (s : Shared) (H : Hp) (args : Args) (us : List Value) (vs : List V) (Q : VK) (E : XK), A.guards = some [] → Room k A → Env0 P w K mg base A outer s H → BindsTo s fd args (ps.zip us) → Vals vs us → sp vs H Q E →
    codeAny (model P w) A (.call (.ref f) args) (CR CX outer P w H s Q E) s
theorem RunG.of {P : Program} {w : World} {K : PySem.W.Frag} {mg : Str → Option Value} {base : Heap} {CX : CXT} {k : Nat} {f : Addr} {fd : FuncData} {x qual : Str} {params : Arguments} {body : List Stmt} {scope : Scope} {dvs : List V} {kws : List (Str × V)} {N ps : List Str} {sp : Sp}
    (F : FunD K x qual params body scope dvs kws f fd) (S : FnScope N ps scope) (len : ∀ vs H Q E, sp vs H Q E → vs.length = ps.length)
    (hbody : ∀ (cdv : Value) (A : Around) (outer : List Env) (s : Shared) (H : Hp) (vs : List V) (Q : VK) (E : XK), A.guards = some [] → Room k (A.deeper (envOfC qual scope s.heap.objs.size f cdv)) → sp vs H Q E →
      ∃ t, PSs (cxOf CX P w K mg base N qual scope f cdv A outer s H E) body t ∧ t { nx := fun _ H' => Q .non H', rt := Q } (start N vs) H) : RunG P w K mg base CX (k + 1) f fd ps sp := by
  obtain ⟨oc, od, dV, kV, doc, pm, an, cdv, ct, osl, rfl, lk, hcd, _, _⟩ := F.ex
  constructor
  intro A outer s H args us vs Q E hg hr e0 hb rv hsp
  have kept : ∀ (b : Addr) (o : Obj), base.get? b = some o → s.heap.get? b = some o := fun b o e => (e0.bs b o e).1
  have known : ∀ y ∈ ps.zip us, scope.names.lookup y.1 = some .local ∨ (scope.names.lookup y.1 = some .cell ∧ ((cellsFrom (s.heap.objs.size + 1) scope.names []).lookup y.1).isSome = true) := by
    rintro ⟨n, v⟩ hy
    cases S.par n (List.of_mem_zip hy).1 with
    | inl q => exact Or.inl q
    | inr q => exact Or.inr ⟨q, PySem.W.cellsFrom_some _ _ _ (Or.inl q)⟩
  have hl : vs.length = ps.length := len _ _ _ _ hsp
  refine codeAny_call_function hr.depth ((e0.mod.kin.keeps kept) _ _ lk) rfl S.co S.gen rfl (PySem.W.codeRec_of (e0.mod.kin.keeps kept) hcd) (hb _ _ _ _ (wpAny_newFunctionEnv_cells S.kind known fun env he s1 x => ?_))
  subst he
  refine ⟨(e0.mod.nolimit.keeps kept).keeps x.toInCall.keep, codeAny_func ?_⟩
  obtain ⟨t, ht, hq⟩ := hbody cdv A outer s H vs Q E hg (hr.deeper _) hsp
  have J0 := inv_start (CX := CX) (N := N) (cd := cdv) (f := f) (E := E) S hr.hd e0 hl rv x
  refine wpAny_mono (ht.run [] s1 (start N vs) H _ J0 hq) (fun fl s' hs => ?_) fun _ _ hs => hs
  have done : ∀ {σ' : St} {H' : Hp} {v : V} {u : Value}, Inv (cxOf CX P w K mg base N qual scope f cdv A outer s H E) [] σ' H' s' → RelV v u → Q v H' → CE outer P w H s Q u s' := by
    intro σ' H' v u J r q
    exact ⟨v, H', J.os, J.bare, J.base, J.hok, r, q⟩
  cases fl with
  | next => obtain ⟨_, _, J, q⟩ := hs; exact done (v := V.non) (u := Value.none) J rfl q
  | ret u => obtain ⟨_, _, _, J, r, q⟩ := hs; exact done J r q
  | brk => exact hs.elim fun _ h => h.elim fun _ h => h.2.elim
  | cont => exact hs.elim fun _ h => h.elim fun _ h => h.2.elim
/-- the law's call, from such a promise -/
theorem lawG {P : Program} {w : World} {K : PySem.W.Frag} {mg mb : Str → Option Value} {CX : CXT} {k : Nat} {fa a : Addr} {fd : FuncData} {x : Str} {sp : Sp} {s₁ : Shared} {vs : List Value} {ns : List Int}
    (KX : K.In s₁.heap) (hns : s₁.heap.Ns mainGlobals mg) (hb : s₁.heap.Ns builtinsNs mb) (hbb : ∀ x : Str, x ≠ "__name__" → mb x = bootBuiltins x) (hlim : s₁.heap.NoLimit) (hg : s₁.gens = #[])
    (ha : s₁.heap.get? a = some { cls := .type "list", data := .seq vs.toArray }) (hi : IntsAre vs ns) (hl : ns.length ≤ sizeLine) (hr : Room k callerA)
    (F : ∀ base : Heap, K.In base → base.Ns mainGlobals mg → RunG P w K mg base CX k fa fd [x] sp) (hbind : ∀ (s : Shared) (u : Value), BindsTo s fd ⟨[u], []⟩ [(x, u)])
    (hsp : ∀ H : Hp, Only H → SqL K H a (ns.map V.int) → sp [.ref a] H (fun v _ => v = .bl true) fun _ _ _ => False)
    (hCX : ∀ H e s', CX [] H s₁ (fun _ _ _ => False) e s' → False) :
    codeAny (model P w) callerA (.call (.ref fa) ⟨[.ref a], []⟩) (fun r s' => r = .ok (.ret (.bool true)) ∧ OldK s₁.heap s'.heap ∧ s'.os = s₁.os ∧ AllBare s'.gens) s₁ := by
  have lenV := hi.length
  have rv := vals_ints hi
  -- whatever is tracked at the start: nothing, or the script alone
  suffices core : ∀ H : Hp, Only H → SqL K H a (ns.map V.int) → HOk P w H s₁.heap → (∀ b, H b ≠ none → b = a) → (H a ≠ none → K.lookup a = none) →
      codeAny (model P w) callerA (.call (.ref fa) ⟨[.ref a], []⟩) (fun r s' => r = .ok (.ret (.bool true)) ∧ OldK s₁.heap s'.heap ∧ s'.os = s₁.os ∧ AllBare s'.gens) s₁ by
    cases hk : K.lookup a with
    | some o =>
      have e := KX a o hk
      rw [ha] at e
      cases e
      exact core (fun _ => none) (fun _ => Or.inl rfl) (Or.inr ⟨_, vs.toArray, _, hk, rfl, rfl, rfl, by simpa [lenV] using hl, by simpa using rv⟩) (fun b u z => nomatch (show (none : Option HO) = some u from z)) (fun b z => absurd rfl z) fun z => absurd rfl z
    | none =>
      let o : Obj := { cls := .type "list", data := .seq vs.toArray }
      have at_a : ∀ b, (if b = a then some (HO.frz o (.lst (ns.map V.int))) else none) ≠ none → b = a := fun b z => Classical.byContradiction fun h => z (if_neg h)
      refine core (fun b => if b = a then some (.frz o (.lst (ns.map V.int))) else none) (fun b => ?_) (Or.inl (Or.inr ⟨o, if_pos rfl⟩)) (fun b u z => ?_) at_a fun _ => hk
      · by_cases h : b = a
        · exact Or.inr ⟨_, _, if_pos h⟩
        · exact Or.inl (if_neg h)
      · have h := at_a b (fun y => nomatch (show (none : Option HO) = some u from y.symm.trans z))
        subst h
        have z2 := (if_pos rfl).symm.trans z
        cases z2
        exact ⟨ha, by simpa using hl, vs, _, rv, ha⟩
  intro H hO hS hok hA hK
  have old : ∀ {b : Addr} {o : Obj}, s₁.heap.get? b = some o → H b = none → (hidT s₁.heap H).get? b = some o := fun e n => hidT_get e n
  have noD : ∀ {b : Addr} {o : Obj} {es : Array DictEntry} {ep : Nat}, s₁.heap.get? b = some o → o.data = .dict es ep → H b = none := by
    intro b o es ep e d
    refine Classical.byContradiction fun q => ?_
    have h := hA b q
    subst h
    rw [ha] at e; cases e
    exact nomatch (show Data.seq vs.toArray _ = Data.dict es ep from d)
  have nsOf : ∀ {b : Addr} {m : Str → Option Value}, s₁.heap.Ns b m → (hidT s₁.heap H).Ns b m := by
    rintro b m ⟨o, es, ep, e, d, r⟩
    exact ⟨o, es, ep, old e (noD e d), d, r⟩
  have kin : K.In (hidT s₁.heap H) := by
    intro b o e
    refine old (KX b o e) (Classical.byContradiction fun q => ?_)
    have h := hA b q
    subst h
    rw [hK q] at e; cases e
  have md : Mod K mg (hidT s₁.heap H) := ⟨kin, nsOf hns, ⟨mb, nsOf hb, hbb⟩, hlim.elim fun mc h => ⟨mc, nsOf h.1, h.2⟩⟩
  have e0 : Env0 P w K mg (hidT s₁.heap H) callerA [] s₁ H := ⟨rfl, md, fun b o e => of_hidT e, Nat.le_of_eq (hidT_size _ _), trivial, fun b hb => absurd (show b ∈ ([] : List Addr) from hb) (by simp), hok, .of_eq hg⟩
  refine codeAny_mono ((F _ kin (nsOf hns)).run callerA [] s₁ H ⟨[.ref a], []⟩ [.ref a] [.ref a] _ _ rfl hr e0 (hbind s₁ (.ref a)) (.cons rfl .nil) (hsp H hO hS)) fun r s' h => ?_
  match r, h with
  | .error e, h => exact (hCX H e s' h).elim
  | .ok .next, h => exact h.elim
  | .ok .brk, h => exact h.elim
  | .ok .cont, h => exact h.elim
  | .ok (.ret u), ⟨v, H', os, bare, un, hok', r', q⟩ =>
    obtain rfl : v = .bl true := q
    obtain rfl : u = Value.bool true := r'
    refine ⟨rfl, OldK.of_keep fun b o e => ?_, os, bare⟩
    cases q : H b with
    | none => exact un.keep b o e q (fun z => absurd (show b ∈ ([] : List Addr) from z) (by simp)) (by simp)
    | some u =>
      cases hO b with
      | inl z => rw [q] at z; cases z
      | inr z =>
        obtain ⟨ob, xs, z⟩ := z
        obtain ⟨e1, _⟩ := hok b _ z
        obtain ⟨e2, _⟩ := hok' b _ (un.frzs b ob _ z)
        rw [e] at e1; cases e1
        exact e2
theorem walkG {l : PySem.W.OpenLaw} {n k : Nat} {q : Program} {loose : List Str} {XP : (Str → Option Value) → Heap → Prop} {YP : World → Heap → Prop} {d : DefRec} {CX : CXT} {x : Str}
    (hn : l.most = some n) (hn2 : n ≤ sizeLine) (hdf : d.params.defaults = []) (hr : Room k callerA)
    (F : ∀ (w : World) (mg : Str → Option Value) (fa : Addr) (h : Heap), YP w h → h.Ns mainGlobals mg → mg d.name = some (.ref fa) →
      ∃ (K : PySem.W.Frag) (fd : FuncData) (sp : Sp), K.In h ∧ (∀ (s : Shared) (u : Value), BindsTo s fd ⟨[u], []⟩ [(x, u)]) ∧
        (∀ (H : Hp) (a : Addr) (ns : List Int), ns.length ≤ n → Only H → SqL K H a (ns.map V.int) → sp [.ref a] H (fun v _ => v = .bl true) fun _ _ _ => False) ∧
        ∀ base : Heap, K.In base → base.Ns mainGlobals mg → RunG l.prog w K mg base CX k fa fd [x] sp)
    (hCX : ∀ (H : Hp) (s : Shared) (e : Value) (s' : Shared), CX [] H s (fun _ _ _ => False) e s' → False) :
    PySem.W.WalkO q loose XP YP l.row.toRowW d [] (fun f vs => PySem.call f vs) := by
  refine Att.attach_call hn hdf fun w s₀ s₁ mg mb fa o pm cd doc a vs ns G Y ho hd hcd hmg hobj hints hlen hg => ?_
  obtain ⟨K, fd, sp, KX, hb, hsp, hF⟩ := F w mg fa _ Y G.T.g hmg
  exact lawG KX G.T.g G.T.b G.T.builtins G.T.nolimit hg hobj hints (Nat.le_trans hlen hn2) hr hF hb (fun H hO hS => hsp H a ns hlen hO hS) fun H e s' => hCX H s₁ e s'
end L2
end

section
set_option linter.all false
set_option maxRecDepth 100000
set_option maxHeartbeats 4000000
namespace DL
open PySem PySem.Spec L2
/-! repr of data, in the law's own def -/
def reprOk (d : D) : Bool := shp d && ((toPy d).showable && (!(toPy d).hasDict && decide ((toPy d).shown.length ≤ sizeLine)))
def fRepr : List D → Rs D
  | [d] => if reprOk d then .ok (.str (toPy d).shown) else .no
  | _ => .no
def rRepr (K : PySem.W.Frag) : List V → Hp → VK → Prop := fun vs H Q => ∃ (x : V) (d : PyData), vs = [x] ∧ Dp K H x d ∧ d.showable = true ∧ d.hasDict = false ∧ d.depth ≤ 64 ∧ d.shown.length ≤ sizeLine ∧ Q (.str d.shown) H
theorem cr_repr {Y : Cx} (hg : Y.A.guards = some []) (hu : Y.A.units + 200 < cLine) : CallR Y (.builtin "repr") (rRepr Y.K) := by
  intro pins s σ H vs us Q I r h
  obtain ⟨x, d, rfl, hd, h1, h2, h3, h4, q⟩ := h
  obtain ⟨u, rfl, rx⟩ := r.one
  obtain ⟨as, rd⟩ := Dp.reads I d x u hd rx
  have ref : ∀ a, u = .ref a → wpAny (model Y.prog Y.w) Y.A (call (.builtin "repr") [u]) (EP Y pins σ Q) Y.xe s := by
    rintro a rfl
    exact repr_of_reads' rd h1 (fun z => by rw [h2] at z; cases z) hg (by omega) (fun _ _ e => e) (fun h' t tk kp => ⟨.str d.shown, H, I.kept kp, ⟨t, rfl⟩, q⟩) h4
  cases rd with
  | none => exact PySem.P.repr_of_none ⟨.str _, H, I.tok _, ⟨_, rfl⟩, q⟩
  | int => exact PySem.P.repr_of_int (of_decide_eq_true h1) ⟨.str _, H, I.tok _, ⟨_, rfl⟩, q⟩
  | str => exact PySem.P.repr_of_str ⟨.str _, H, I.tok _, ⟨_, rfl⟩, q⟩ h4
  | bool => exact PySem.P.repr_of_bool ⟨.str _, H, I.tok _, ⟨_, rfl⟩, q⟩
  | list => exact ref _ rfl
  | tuple => exact ref _ rfl
  | dict => exact ref _ rfl
variable {E : Am}
theorem cals_repr : CalS E (GS E) (rRepr E.K) fRepr := by
  intro W F H σ ds vs Q s h post
  unfold fRepr at post
  split at post
  · rename_i d
    by_cases c : reprOk d = true
    · rw [if_pos c] at post
      obtain ⟨c1, c⟩ := Bool.and_eq_true_iff.mp c
      obtain ⟨c2, c⟩ := Bool.and_eq_true_iff.mp c
      obtain ⟨c3, c4⟩ := Bool.and_eq_true_iff.mp c
      obtain ⟨v, rfl, h1⟩ := rol1 h
      exact ⟨v, toPy d, rfl, RepO.dp s (SeqAt.canLay_of_shaped c1) h1, c2, by simpa using c3, SeqAt.depth_of_shaped c1, of_decide_eq_true c4, ev_ok s post rfl⟩
    · rw [if_neg c] at post; exact post.elim
  · exact post.elim
section
variable {I : Type} {X : I → Cx} {W : WX} {k : Nat}
theorem xe_repr {mg : Str → Option Value} {e : Expr} {p pos : Pos} {q : Ev → Rs (List D)} {cm : Bool} (c : CtxB X E W k cm) (gd : ∀ i, (X i).A.guards = some []) (hn : mg "repr" = none) (hm : ∀ i, (X i).mg "repr" = mg "repr") (hg : ∀ i, Gl (X i) "repr") (ha : XAL X E W [e] q)
    (he : ∀ i, starEach [e] (X i).env = (false, eval e (X i).env) :: starEach [] (X i).env := by intro _; rfl) (hpl : ∀ i, (backTo pos (starEach [] (X i).env)).any (·.1) = false := by intro _; rfl) : XE X E W (.Call (.Name "repr" p) [e] [] pos) (pCall fRepr q) :=
  xe_callB (r := rRepr E.K) (id := "repr") (fun i => by rw [← c.K i]; exact cr_repr (gd i) (c.hu i)) cals_repr hg (fun i => (hm i).trans hn) (by decide +kernel) ha (he := he) (hpl := hpl)
end
theorem runG_mk {P : Program} {w : World} {mg : Str → Option Value} {base : Heap} {x qual : Str} {params : Arguments} {body : List Stmt} {sc : Scope} {dvs : List V} {kws : List (Str × V)} {f : Addr} {fd : FuncData} {N ps : List Str} {k m n : Nat} {p : Ev → Fl} {fn : List D → Rs D} (F : FunD E.K x qual params body sc dvs kws f fd) (S : FnScope N ps sc) (hm : N.length = m) (hn : ps.length = n) (hfn : fn = runF m p)
    (hb : ∀ (cdv : Value) (A : Around) (outer : List Env) (s : Shared) (H : Hp) (Ex : L2.XK), A.guards = some [] → Room k (A.deeper (PyProof.Rows.envOfC qual sc s.heap.objs.size f cdv)) → XSs (Bd P w E mg base N qual sc f cdv A outer s H Ex) E (WF Ex) body p) : RunG P w E.K mg base (L2.CX P w) (k + 1) f fd ps (spF E n fn) := by
  subst hm hn hfn
  refine RunG.of F S (fun vs H Q Ex h => spF_len h) (fun cdv A outer s H vs Q Ex hg hr h => ?_)
  obtain ⟨t, t1, t2⟩ := hb cdv A outer s H Ex hg hr
  refine ⟨t, t1 (), ?_⟩
  obtain ⟨F0, ds, sm, r, hl, post⟩ := h
  refine t2 F0 H F0 H _ _ _ (Ext.refl sm) (start_str (N := N) r) ?_
  unfold runF at post
  cases e : p (ds.map EV.dat ++ List.replicate (N.length - ds.length) EV.unb) with
  | nx ρ => rw [e] at post; exact fun F' H' σ' x' _ => post F' H' .non x' rfl
  | rt d => rw [e] at post; exact fun F' H' v x' g => post F' H' v x' g
  | err c z ρ => rw [e] at post; exact fun F' H' σ' cls dd x' _ g => post F' H' cls dd x' g
  | bk ρ => rw [e] at post; exact post.elim
  | ct ρ => rw [e] at post; exact post.elim
  | no => rw [e] at post; exact post.elim
theorem runG_nox {P : Program} {w : World} {K : PySem.W.Frag} {mg : Str → Option Value} {base : Heap} {k : Nat} {f : Addr} {fd : FuncData} {ps : List Str} {sp : Sp} (F : RunG P w K mg base (L2.CX P w) k f fd ps sp) : RunG P w K mg base CX0 k f fd ps (fun vs H Q _ => sp vs H Q fun _ _ _ => False) :=
  ⟨fun A outer s H args us vs Q Ex hg hr e0 hb r h => PySem.codeAny_mono (F.run A outer s H args us vs Q _ hg hr e0 hb r h) fun res s' hq => by
    cases res with
    | error e =>
      obtain ⟨_, _, _, _, _, _, _, _, _, _, _, _, z⟩ := hq
      exact z.elim
    | ok fl => cases fl <;> exact hq⟩
end DL
end

section
set_option linter.all false
set_option maxRecDepth 100000
set_option maxHeartbeats 4000000
namespace DL
open PySem PySem.Spec L2
/-! a comprehension over an own list -/
def SrcH (E : Am) (F' H' : Hp) (J : It) (ds : List D) : Prop := ∃ (G : Hp → Prop) (Y : Nat → Hp → V → Hp → Prop), Walk J ds.length G Y ∧ (∀ H2, Same H' H2 → G H2) ∧
  ∀ i H2 x H3 F2 d, ds[i]? = some d → Same F' F2 → Same F2 H2 → Y i H2 x H3 → ∃ F3, Ext F2 H2 F3 H3 ∧ Rep E F3 d x
abbrev GIo (E : Am) : Hp → Hp → Hp → List D → It → Prop := fun _ F H ds J => SrcH E F H J ds
def XIo {I : Type} (X : I → Cx) (E : Am) (W : WX) (tg iter : Expr) (p : Ev → Rs (List D)) : Prop := ∃ wi, (∀ i, PI (X i) tg iter wi) ∧ Evals E W (GIo E) wi p
def pIterO (p : Ev → Rs D) : Ev → Rs (List D) := fun ρ => (p ρ).bind fun d => match d with | .lst ds => .ok ds | _ => .no
section
variable {I : Type} {X : I → Cx} {E : Am} {W : WX} {k : Nat}
theorem srcH_of {F H : Hp} {J : It} {ds : List D} (s : Same F H) (h : Src E F J ds) : SrcH E F H J ds := by
  obtain ⟨G, Y, w, hG, hY⟩ := h
  exact ⟨G, Y, w, fun H2 sH => hG H2 (s.trans sH), hY⟩
theorem srcH_list {F H : Hp} {a : Addr} {vs : List V} {ds : List D} (h : SqL E.K H a vs) (r : RepL E F ds vs) : SrcH E F H (Itl E.K a) ds := by
  refine ⟨_, _, by rw [r.len]; exact walk_list, fun H2 s => sqL_mono s h, fun i H2 x H3 F2 d e s1 s2 y => ?_⟩
  obtain ⟨rfl, y⟩ := y
  obtain ⟨d', e1, e2⟩ := r.getV y
  rw [e] at e1; cases e1
  exact ⟨F2, Ext.refl s2, Rep.mono s1 _ _ e2⟩
theorem xio_own {tg e : Expr} {p : Ev → Rs D} {cm : Bool} (c : CtxB X E W k cm) (h : XL X E W e p) : XIo X E W tg e (pIterO p) := by
  obtain ⟨t, h1, h2⟩ := h
  refine ⟨fun σ H R => iList E.K t σ H R, fun i => by rw [← c.K i]; exact pi_list (h1 i), fun B F H σ ρ Q s sb r post => ?_⟩
  cases e : p ρ with
  | no => unfold pIterO at post; rw [e] at post; exact post.elim
  | err c z =>
    show t σ H _
    exact Evals.seq h2 s sb r post fun F1 H1 d v e1 x1 sb1 r1 gg post1 => by rw [e] at e1; cases e1
  | ok d =>
    cases d with
    | lst ds =>
      have key : pIterO p ρ = .ok ds := by unfold pIterO; rw [e]; rfl
      rw [key] at post
      show t σ H _
      refine Evals.seq (k := fun d => .ok ds) h2 s sb r (by rw [e]; exact post) fun F1 H1 d v e1 x1 sb1 r1 gg post1 => ?_
      rw [e] at e1; cases e1
      rcases gg with gg | ⟨l, ho, rfl, hl, vs, rfl, q2⟩
      · obtain ⟨a, vs, rfl, q1, q2⟩ := gg
        exact ⟨a, rfl, ⟨vs, sqL_mono x1.fh (SqL.of q1)⟩, ev_ok x1.fh post1 (srcH_of x1.fh (src_list (SqL.of q1) q2))⟩
      · exact ⟨l, rfl, ⟨vs, Or.inl (Or.inl hl)⟩, ev_ok x1.fh post1 (srcH_list (Or.inl (Or.inl hl)) q2)⟩
    | _ => unfold pIterO at post; rw [e] at post; exact post.elim
theorem xlcO {elt tg iter : Expr} {ifs : List Expr} {scope : Scope} {own : List (Str × Nat)} {ps : Ev → Rs (List D)} {g : D → Ev → Option Ev} {pt : Ev → Rs Bool} {pe : Ev → Rs D} {vs : List Nat} {cm : Bool} (c : CtxB X E W k cm)
    (hi : XIo X E W tg iter ps) (hg : XG (Blk X scope) E tg vs g) (hv : ∀ j ∈ vs, j ∈ own.map (·.2)) (ht : XTs (Blk X scope) E W0 ifs pt) (he : XE (Blk X scope) E W0 elt pe) : XLc X E W elt tg iter ifs scope own (pLc ps g pt pe (own.map (·.2))) := by
  obtain ⟨wi, i1, i2⟩ := hi
  obtain ⟨gg, g1, g2⟩ := hg
  obtain ⟨tt, t1, t2⟩ := ht
  obtain ⟨te, e1, e2⟩ := he
  refine ⟨wi, gg, tt, te, i1, g1, t1, e1, ?_⟩
  intro B F H σ ρ Q s sb r post
  show wi σ H _
  refine Evals.seq (G2 := fun F' H' a b => GN E H F' H' a b) i2 s sb r post fun F1 H1 ds J _ x1 sb1 r1 src post1 => ?_
  by_cases cz : ds.length ≤ sizeLine
  · rw [if_pos cz] at post1
    cases el : lcL g pt pe (wipeE ρ (own.map (·.2))) ds with
    | none => rw [el] at post1; exact post1.elim
    | some fin =>
      rw [el] at post1
      intro D hD
      obtain ⟨G, Y, wk, hG, hY⟩ := src
      have hF1D : F1 D = none := x1.fh.free hD
      refine lc_it wk (Pv := fun i H' => ∃ F' acc accD rest, Ext F1 H1 F' H' ∧ H' D = some (.lst acc) ∧ F' D = none ∧ RepL E F' accD acc ∧ acc.length ≤ i ∧ lcL g pt pe (wipeE ρ (own.map (·.2))) (ds.drop i) = some rest ∧ accD ++ rest = fin)
        ⟨F1, [], [], fin, Ext.newH x1.fh hD, upd_same, hF1D, rfl, Nat.le_refl _, by rw [List.drop_zero]; exact el, rfl⟩ (fun i H' _ ⟨F', _, _, _, x, _⟩ => hG H' x.h) ?_ ?_
      · rintro i x H2 H3 hin ⟨F2, acc, accD, rest, x2, hD2, hF2, ra, hal, hrest, hfin⟩ y
        have hd : ds[i]? = some ds[i] := List.getElem?_eq_getElem hin
        obtain ⟨F3, x3, rx⟩ := hY i H2 x H3 F2 _ hd x2.f x2.fh y
        have x13 := x2.trans x3
        have hD3 : H3 D = some (.lst acc) := x3.h _ _ hD2
        have hF3 : F3 D = none := by rw [x3.keep hD2 (fun _ z => by cases z)]; exact hF2
        have r3 : StR E B F3 H3 (L2.wipe σ (own.map (·.2))) (wipeE ρ (own.map (·.2))) := (r1.mono x13).wipe _
        have sb3 : Same B H3 := sb1.trans x13.h
        rw [List.drop_eq_getElem_cons hin] at hrest
        unfold lcL at hrest
        split at hrest
        · cases hrest
        · rename_i ρ1 eg
          refine g2 B F3 H3 _ _ ds[i] x _ ρ1 x3.fh r3 rx eg fun σ2 r4 hl4 hk4 => ?_
          refine ⟨wipe_same hl4 fun j hj => hk4 j fun z => hj (hv j z), ?_⟩
          split at hrest
          · rename_i ept
            refine t2 B F3 H3 σ2 ρ1 _ x3.fh sb3 r4 (rs_post ept fun F4 H4 b x4 gb => ?_)
            cases gb
            rw [if_pos rfl]
            split at hrest
            · rename_i xd epe
              obtain ⟨rest', hr1, hr2⟩ := Option.map_eq_some_iff.mp hrest
              refine e2 B F4 H4 σ2 ρ1 _ x4.fh (sb3.trans x4.h) (r4.mono x4) (rs_post epe fun F5 H5 v x5 gv => ?_)
              have x15 := (x13.trans x4).trans x5
              have hD5 : H5 D = some (.lst acc) := x5.h _ _ (x4.h _ _ hD3)
              have hF5 : F5 D = none := by rw [(x4.trans x5).keep hD3 (fun _ z => by cases z)]; exact hF3
              refine ⟨acc, hD5, by omega, F5, acc ++ [v], accD ++ [xd], rest', x15.wr hF5 hD, upd_same, hF5, ?_, by rw [List.length_append]; simp; omega, hr1, by rw [← hfin, ← hr2]; simp⟩
              exact (RepL.mono ((x3.trans (x4.trans x5)).f) _ _ ra).append (.cons gv rfl)
            · cases hrest
          · rename_i ept
            refine t2 B F3 H3 σ2 ρ1 _ x3.fh sb3 r4 (rs_post ept fun F4 H4 b x4 gb => ?_)
            cases gb
            rw [if_neg Bool.false_ne_true]
            exact ⟨F4, acc, accD, rest, x13.trans x4, x4.h _ _ hD3, by rw [x4.keep hD3 (fun _ z => by cases z)]; exact hF3, RepL.mono (x3.trans x4).f _ _ ra, by omega, hrest, hfin⟩
          · cases hrest
      · rintro H2 ⟨F2, acc, accD, rest, x2, hD2, hF2, ra, hal, hrest, hfin⟩
        rw [List.drop_length] at hrest
        cases hrest
        rw [List.append_nil] at hfin
        subst hfin
        exact post1 F2 H2 _ x2 ⟨D, _, rfl, x1.h.free hD, hF2, hD2, acc, rfl, ra⟩
  · rw [if_neg cz] at post1; exact post1.elim
end
end DL
end

section
set_option linter.all false
set_option maxRecDepth 100000
set_option maxHeartbeats 4000000
namespace DL
open PySem PySem.Spec L2
/-! try: .. except X as e: .. (one clause) -/
theorem StR.setP {E : Am} {B F H : Hp} {σ : L2.St} {ρ : Ev} (s : StR E B F H σ ρ) {i : Nat} {v : V} : StR E B F H (σ.set i (some v)) (ρ.set i (.pin v)) := by
  have at_ : ∀ {j : Nat} {e : EV}, e ≠ .pin v → (ρ.set i (.pin v))[j]? = some e → j ≠ i ∧ ρ[j]? = some e := fun {j e} ne hj => by
    by_cases q : i = j
    · subst q
      by_cases hi : i < ρ.length
      · rw [List.getElem?_set_self hi] at hj; cases hj; exact absurd rfl ne
      · rw [List.getElem?_eq_none (by simpa using hi)] at hj; cases hj
    · rw [List.getElem?_set_ne q] at hj; exact ⟨Ne.symm q, hj⟩
  refine ⟨by simp [s.len], fun j e hj => ?_, fun j e hj => ?_, fun j k e e' l' hjk hj hk hl' => ?_, fun j e hj => ?_⟩
  · obtain ⟨q, z⟩ := at_ (by simp) hj
    rw [List.getElem?_set_ne (Ne.symm q)]; exact s.dat j e z
  · obtain ⟨q, z⟩ := at_ (by simp) hj
    rw [List.getElem?_set_ne (Ne.symm q)]; exact s.own j e z
  · obtain ⟨q, z⟩ := at_ (by simp) hj
    obtain ⟨q2, z2⟩ := at_ (by simp) hk
    rw [List.getElem?_set_ne (Ne.symm q)] at hl'
    rw [List.getElem?_set_ne (Ne.symm q2)]
    exact s.apart j k e e' l' hjk z z2 hl'
  · by_cases q : i = j
    · subst q
      by_cases hi : i < ρ.length
      · rw [List.getElem?_set_self hi] at hj
        cases hj
        rw [List.getElem?_set_self (by rw [s.len]; exact hi)]
      · rw [List.getElem?_eq_none (by simpa using hi)] at hj; cases hj
    · rw [List.getElem?_set_ne q] at hj ⊢
      exact s.pin j e hj
section
variable {I : Type} {X : I → Cx} {E : Am} {W : WX} {k : Nat}
/-- the suites' contexts: the caught error, of class D, lies at a -/
structure SuIx (I : Type) (D a : Addr) where
  i : I
  oe : Obj
  pn : List (Addr × Obj)
  hz : Zc (.ref D) none oe
  hf : ∃ vs, oe.data = .fields vs
abbrev SuA (X : I → Cx) (D a : Addr) : SuIx I D a → Cx := fun j => (X j.i).suite a ((a, j.oe) :: j.pn)
theorem Ctx.su {cm : Bool} (c : CtxB X E W k cm) (D a : Addr) : CtxB (SuA X D a) E W0 k false :=
  ⟨fun j => c.K j.i, fun h => (by cases h), fun h => (by cases h), fun _ => takes0, fun _ => PassesOwn.never, fun j => c.unt j.i⟩
def wipeFl (i : Nat) : Fl → Fl
  | .nx ρ => .nx (ρ.set i .unb)
  | .bk ρ => .bk (ρ.set i .unb)
  | .ct ρ => .ct (ρ.set i .unb)
  | .rt d => .rt d
  | _ => .no
/-- what the suite does, the same for every place at which the error may lie -/
noncomputable def anyS (i : Nat) (q : Addr → Ev → Fl) (ρ : Ev) : Fl := open Classical in
  if h : ∃ r, ∀ a, wipeFl i (q a (ρ.set i (.pin (.ref a)))) = r then h.choose else .no
theorem anyS_eq {i : Nat} {q : Addr → Ev → Fl} {ρ : Ev} {r : Fl} (h : ∀ a, wipeFl i (q a (ρ.set i (.pin (.ref a)))) = r) : anyS i q ρ = r := by
  have z : ∃ r, ∀ a, wipeFl i (q a (ρ.set i (.pin (.ref a)))) = r := ⟨r, h⟩
  unfold anyS
  rw [dif_pos z]
  exact (z.choose_spec 0).symm.trans (h 0)
theorem anyS_at {i : Nat} {q : Addr → Ev → Fl} {ρ : Ev} (h : anyS i q ρ ≠ .no) (a : Addr) : wipeFl i (q a (ρ.set i (.pin (.ref a)))) = anyS i q ρ := by
  unfold anyS at h ⊢
  by_cases z : ∃ r, ∀ a, wipeFl i (q a (ρ.set i (.pin (.ref a)))) = r
  · rw [dif_pos z]; exact z.choose_spec a
  · rw [dif_neg z] at h; exact absurd rfl h
noncomputable def pTryAs (cat : Str → Option Bool) (i : Nat) (p : Ev → Fl) (q : Str → Addr → Ev → Fl) : Ev → Fl := fun ρ => match p ρ with
  | .err C z ρ1 => (match cat C, z with
    | some true, none => anyS i (q C) ρ1
    | some false, z => .err C z ρ1
    | _, _ => .no)
  | r => r
theorem xs_tryAs {x n : Str} {i : Nat} {np pos pos' : Pos} {body suite : List Stmt} {b₀ : Stmt} {p : Ev → Fl} {q : Str → Addr → Ev → Fl} (c : Ctx X E W k) (cat : Str → Option Bool) (hs : ∀ i, (X i).stack = (X i).env :: (X i).outer) (hf : ∀ i, (X i).env.frame = some (X i).env.locals)
    (hN : ∀ j, (X j).N.Nodup) (hi : ∀ j, (X j).N[i]? = some n) (hln : ∀ j, (X j).env.kindOf n = some .local) (hc : ∀ i, Names (X i) x (.ref (E.cl x)))
    (hcat : ∀ C b, cat C = some b → PySem.W.exmOne E.K (.ref (E.cl C)) (.ref (E.cl x)) = some b)
    (inj : ∀ C C', cat C = some true → cat C' = some true → E.cl C = E.cl C' → C = C')
    (hb : ∀ W' : WX, XSs (TrF X W') E W' body p) (hsu : ∀ C a, cat C = some true → XSs (SuA X (E.cl C) a) E W0 (b₀ :: suite) (q C a)) :
    XS X E W (.Try body [.ExceptHandler (some (.Name x np)) (some n) (b₀ :: suite) pos'] [] [] pos) (pTryAs cat i p q) := by
  classical
  let ts : Addr → Value → Option Addr → TS := fun a cls d => if h : ∃ C, cat C = some true ∧ cls = .ref (E.cl C) ∧ d = none then (hsu h.choose a h.choose_spec.1).choose else fun _ _ _ => False
  refine ⟨fun D σ H => (hb (wAs E.K (.ref (E.cl x)) i ts W D)).choose D σ H, fun j => ?_, fun F0 B F H σ ρ Dn xx rr post => ?_⟩
  · have z := ps_try_as (X := X j) (tb := fun W' => (hb W').choose) (ts := ts) (Wout := W) (pos := pos) (np := np) (pos' := pos') (hs j) (hf j) (hN j) (hi j) (hln j) (hc j) (c.tk j) (fun W' pn xe tk po => (hb W').choose_spec.1 ⟨j, pn, xe, tk, po⟩) (fun a oe cls d pn hz hff => by
      by_cases h : ∃ C, cat C = some true ∧ cls = .ref (E.cl C) ∧ d = none
      · have e : ts a cls d = (hsu h.choose a h.choose_spec.1).choose := dif_pos h
        rw [e]
        obtain ⟨h1, h2, h3⟩ := h.choose_spec
        exact (hsu h.choose a h.choose_spec.1).choose_spec.1 ⟨j, oe, pn, by rw [← h2, ← h3]; exact hz, hff⟩
      · have e : ts a cls d = fun _ _ _ => False := dif_neg h
        rw [e]
        exact ⟨fun pins s σ H D I h => h.elim⟩)
    rw [c.K j] at z
    exact z
  · refine (hb (wAs E.K (.ref (E.cl x)) i ts W Dn)).choose_spec.2 F0 B F H σ ρ Dn xx rr ?_
    unfold pTryAs at post
    cases e : p ρ with
    | nx ρ1 => rw [e] at post; exact post
    | rt d => rw [e] at post; exact post
    | bk ρ1 => rw [e] at post; exact post
    | ct ρ1 => rw [e] at post; exact post
    | no => rw [e] at post; exact post
    | err C z ρ1 =>
      rw [e] at post
      intro F' H' σ' cls dd x' r' ge
      obtain ⟨rfl, gx⟩ := ge
      cases ec : cat C with
      | none => simp only [ec] at post; exact post.elim
      | some b =>
        cases b with
        | true =>
          cases z with
          | some z => simp only [ec] at post; exact post.elim
          | none =>
            have gx : dd = none := gx
            subst gx
            refine ⟨true, hcat C true ec, fun _ a na => ?_, fun h => by cases h⟩
            simp only [ec] at post
            have h : ∃ C', cat C' = some true ∧ Value.ref (E.cl C) = .ref (E.cl C') ∧ (none : Option Addr) = none := ⟨C, ec, rfl, rfl⟩
            have e1 : ts a (.ref (E.cl C)) none = (hsu h.choose a h.choose_spec.1).choose := dif_pos h
            rw [e1]
            have eC : h.choose = C := by
              obtain ⟨g1, g2, _⟩ := h.choose_spec
              injection g2 with g2
              exact (inj C h.choose ec g1 g2).symm
            have at_ : anyS i (q C) ρ1 ≠ .no := fun z => by rw [z] at post; exact post
            have wq := anyS_at at_ a
            rw [← wq] at post
            refine (hsu h.choose a h.choose_spec.1).choose_spec.2 F0 B F' H' _ (ρ1.set i (.pin (.ref a))) _ x' r'.setP ?_
            rw [eC]
            cases eq : q C a (ρ1.set i (.pin (.ref a))) with
            | err _ _ _ => rw [eq] at post; exact post.elim
            | no => rw [eq] at post; exact post.elim
            | rt d => rw [eq] at post; exact post
            | nx ρ2 => rw [eq] at post; exact fun F2 H2 σ2 x2 r2 => post F2 H2 _ x2 r2.setU
            | bk ρ2 => rw [eq] at post; exact fun F2 H2 σ2 x2 r2 => post F2 H2 _ x2 r2.setU
            | ct ρ2 => rw [eq] at post; exact fun F2 H2 σ2 x2 r2 => post F2 H2 _ x2 r2.setU
        | false =>
          refine ⟨false, hcat C false ec, fun h => absurd h Bool.false_ne_true, fun _ => ?_⟩
          simp only [ec] at post
          exact post F' H' σ' _ dd x' r' ⟨rfl, gx⟩
end
end DL
end

section
set_option linter.all false
set_option maxRecDepth 100000
set_option maxHeartbeats 4000000
namespace DL
open PySem PySem.Spec L2
/-! isinstance of the caught error -/
def excIsB (C : Str) (K : PySem.W.Frag) : Bool := decide (PySem.W.findIn K (.ref (He.ga K C)) "__getattribute__" = some (some (.builtin "BaseException.__getattribute__"))) && (decide (PySem.W.findIn K (.ref (He.ga K C)) "__getattr__" = some none) && (decide (PySem.W.subIn K (.ref (He.ga K C)) (.type "BaseException") = some true) && (PySem.W.hasDictIn K (He.ga K C) && (decide (PySem.W.findIn K (.ref (He.ga K C)) "__class__" = some (some (.builtin "object.__class__"))) && (decide (PySem.W.specialIn K (.builtin "object.__class__") "__get__" = some (some (.builtin "getset_descriptor.__get__"))) && (decide (PySem.W.takesIn K (.builtin "object.__class__") = some true) && decide (PySem.W.mroIn K (He.ga K C) (.type "object") = some true)))))))
theorem excIsB_ok {C : Str} {K : PySem.W.Frag} (h : excIsB C K = true) : ExcC K (He.ga K C) := by
  obtain ⟨h1, h⟩ := Bool.and_eq_true_iff.mp h
  obtain ⟨h2, h⟩ := Bool.and_eq_true_iff.mp h
  obtain ⟨h3, h⟩ := Bool.and_eq_true_iff.mp h
  obtain ⟨h4, h⟩ := Bool.and_eq_true_iff.mp h
  obtain ⟨h5, h⟩ := Bool.and_eq_true_iff.mp h
  obtain ⟨h6, h⟩ := Bool.and_eq_true_iff.mp h
  obtain ⟨h7, h8⟩ := Bool.and_eq_true_iff.mp h
  exact ⟨of_decide_eq_true h1, of_decide_eq_true h2, of_decide_eq_true h3, h4, of_decide_eq_true h5, of_decide_eq_true h6, of_decide_eq_true h7, of_decide_eq_true h8⟩
/-- is the error of class C one of the own class Y / of the builtin class T -/
def kitB (C Y : Str) (b : Bool) (K : PySem.W.Frag) : Bool := decide (PySem.W.kitOne K (.ref (He.ga K C)) (.ref (He.ga K Y)) = some b)
def kitTB (C : Str) (T : String) (b : Bool) (K : PySem.W.Frag) : Bool := decide (PySem.W.kitOne K (.ref (He.ga K C)) (.type T) = some b)
def pIsE (i : Nat) (a : Addr) (b : Bool) : Ev → Rs D := fun ρ => match ρ[i]? with
  | some (.pin (.ref a')) => if a' = a then .ok (.bl b) else .no
  | _ => .no
section
variable {I : Type} {X : I → Cx} {E : Am} {W : WX} {k : Nat}
theorem xe_isE {e cE : Expr} {i : Nat} {D a : Addr} {v : V} {cv : Value} {b : Bool} {p pos : Pos} {cm : Bool} (c : CtxB (SuA X D a) E W k cm) (ec : ExcC E.K D) (he : ∀ j, PE (SuA X D a j) e (tVar i)) (hv : ∀ j, PE (SuA X D a j) cE (tC v)) (hcv : ∀ u, RelV v u → u = cv) (hk : PySem.W.kitOne E.K (.ref D) cv = some b)
    (hg : ∀ j, Gl (SuA X D a j) "isinstance") (hm : ∀ j, (SuA X D a j).mg "isinstance" = none)
    (h1 : ∀ j, starEach [e, cE] (SuA X D a j).env = (false, eval e (SuA X D a j).env) :: starEach [cE] (SuA X D a j).env := by intro _; rfl) (h2 : ∀ j, starEach [cE] (SuA X D a j).env = (false, eval cE (SuA X D a j).env) :: starEach [] (SuA X D a j).env := by intro _; rfl) (hpl : ∀ j, (backTo pos (starEach [cE] (SuA X D a j).env)).any (·.1) = false := by intro _; rfl) : XE (SuA X D a) E W (.Call (.Name "isinstance" p) [e, cE] [] pos) (pIsE i a b) := by
  refine ⟨tCB (rIsE E.K D a) (tCons (tVar i) (tCons (tC v) tNil)), fun j => ?_, ?_⟩
  · have ck : (X j.i).K = E.K := c.K j
    have cr := call_isE (X := X j.i) (a := a) (D := D) (oe := j.oe) (pn := j.pn) (by rw [ck]; exact ec) j.hz j.hf
    rw [ck] at cr
    exact pe_callB cr (hg j) (hm j) (by decide +kernel) (pa_cons (he j) (pa_cons (hv j) pa_nil (h2 j)) (h1 j)) (he := h1 j) (hpl := hpl j)
  · intro B F H σ ρ Q s sb r post
    unfold pIsE at post
    split at post
    · rename_i a' hi
      by_cases q : a' = a
      · subst q
        rw [if_pos rfl] at post
        exact ⟨.ref a', r.pin i _ hi, v, cv, b, rfl, hcv, hk, ev_ok s post rfl⟩
      · rw [if_neg q] at post; exact post.elim
    · exact post.elim
/-- the suite, class by class -/
theorem su_nil {suite : List Stmt} {q : Str → Addr → Ev → Fl} : ∀ C a, List.lookup C ([] : List (Str × Bool)) = some true → XSs (SuA X (E.cl C) a) E W0 suite (q C a) := fun C a h => by cases h
theorem su_no {suite : List Stmt} {q : Str → Addr → Ev → Fl} {C0 : Str} {L : List (Str × Bool)} (t : ∀ C a, List.lookup C L = some true → XSs (SuA X (E.cl C) a) E W0 suite (q C a)) : ∀ C a, List.lookup C ((C0, false) :: L) = some true → XSs (SuA X (E.cl C) a) E W0 suite (q C a) := fun C a h => by
  by_cases z : C = C0
  · subst z
    have : some false = some true := by simpa [List.lookup] using h
    cases this
  · refine t C a ?_
    have zb : (C == C0) = false := by simpa using z
    simpa [List.lookup, zb] using h
theorem su_yes {suite : List Stmt} {q : Str → Addr → Ev → Fl} {C0 : Str} {L : List (Str × Bool)} (h0 : ∀ a, XSs (SuA X (E.cl C0) a) E W0 suite (q C0 a)) (t : ∀ C a, List.lookup C L = some true → XSs (SuA X (E.cl C) a) E W0 suite (q C a)) : ∀ C a, List.lookup C ((C0, true) :: L) = some true → XSs (SuA X (E.cl C) a) E W0 suite (q C a) := fun C a h => by
  by_cases z : C = C0
  · subst z; exact h0 a
  · refine t C a ?_
    have zb : (C == C0) = false := by simpa using z
    simpa [List.lookup, zb] using h
end
end DL
end

section
set_option linter.all false
set_option maxRecDepth 100000
set_option maxHeartbeats 4000000
namespace DL
open PySem PySem.Spec L2
def qsel (L : List (Str × (Addr → Ev → Fl))) : Str → Addr → Ev → Fl := fun C => match List.lookup C L with | some f => f | none => fun _ _ => .no
def injB (L : List (Str × Bool)) (K : PySem.W.Frag) : Bool := L.all fun p => L.all fun p' => !p.2 || (!p'.2 || (decide (p.1 = p'.1) || decide (He.ga K p.1 ≠ He.ga K p'.1)))
theorem lookup_mem {C : Str} {b : Bool} : ∀ {L : List (Str × Bool)}, List.lookup C L = some b → (C, b) ∈ L
  | [], h => by cases h
  | (D, d) :: L, h => by
    by_cases z : C = D
    · subst z
      have : some d = some b := by simpa [List.lookup] using h
      cases this
      exact List.mem_cons_self
    · have zb : (C == D) = false := by simpa using z
      exact List.mem_cons_of_mem _ (lookup_mem (by simpa [List.lookup, zb] using h))
theorem injB_ok {L : List (Str × Bool)} {K : PySem.W.Frag} (h : injB L K = true) : ∀ C C', List.lookup C L = some true → List.lookup C' L = some true → He.ga K C = He.ga K C' → C = C' := fun C C' h1 h2 e => by
  have a := List.all_eq_true.mp (List.all_eq_true.mp h _ (lookup_mem h1)) _ (lookup_mem h2)
  simp at a
  rcases a with a | a
  · exact a
  · exact absurd e a
section
variable {I : Type} {X : I → Cx} {E : Am} {W : WX} {k : Nat}
theorem su_yes2 {suite : List Stmt} {q : Str → Addr → Ev → Fl} {f : Addr → Ev → Fl} {C0 : Str} {L : List (Str × Bool)} (e : q C0 = f) (h0 : ∀ a, XSs (SuA X (E.cl C0) a) E W0 suite (f a)) (t : ∀ C a, List.lookup C L = some true → XSs (SuA X (E.cl C) a) E W0 suite (q C a)) : ∀ C a, List.lookup C ((C0, true) :: L) = some true → XSs (SuA X (E.cl C) a) E W0 suite (q C a) :=
  su_yes (fun a => by rw [e]; exact h0 a) t
end
end DL
end

section

end

section
set_option linter.all false
set_option maxRecDepth 100000
noncomputable section
namespace DL
open PySem L2
abbrev c_MOST : D := .int 1000000000000000000000000000000
abbrev c_MOST_POCKETS : D := .int 12
/-- require(holds) : 0 holds -/
def p_require : Ev → Fl :=
  (pIfS (pNot (pTr (pV 0)))
    (fun ρ => Fl.err "InvalidTable" none ρ)
    pNext)
def f_require : List D → Rs D := runF 1 p_require
/-- Table.is_point(self, point) : 0 self, 1 point -/
def p_Table_is_point : Ev → Fl :=
  (pRet (pAndV (pChain fLe fLe (pC (.int 0)) (pBin fIx (pV 1) (pC (.int 0))) (pUn (fFld "Table" "width") (pV 0))) (pChain fLe fLe (pC (.int 0)) (pBin fIx (pV 1) (pC (.int 1))) (pUn (fFld "Table" "height") (pV 0)))))
def f_Table_is_point : List D → Rs D := runF 2 p_Table_is_point
/-- Table.__init__(self, width, height, pockets) : 0 self, 1 width, 2 height, 3 pockets, 4 point, 5 number -/
def e_Table_init_0 : Ev → Rs D :=
  (pBin fEq (pCall fLen (pCons (pV 4) pNil)) (pC (.int 2)))
def e_Table_init_1 : Ev → Rs D :=
  (pCall fTuple (pCons (pV 4) pNil))
def l_Table_init_0 : Ev → Fl :=
  (pDrop (pFn (arity 1 f_require) [] (pCons (pAndV (pMeth "Table" "is_point" (arity 2 f_Table_is_point) (pV 0) (pCons (pV 4) pNil)) (pBin (fIn2 true) (pV 4) (pSl fSl (pUn (fFld "Table" "pockets") (pV 0)) pNo (pPart (pV 5))))) pNil)))
def r_Table_init_0 : Ev → Fl :=
  (pFor (pEnum2 (pCons (pUn (fFld "Table" "pockets") (pV 0)) pNil)) (gTp (gsCons (gN 5) (gsCons (gN 4) gsNil))) l_Table_init_0)
def p_Table_init : PI0 :=
  (qStm (pDrop (pFn (arity 1 f_require) [] (pCons (pAndV (pChain fLe fLe (pC (.int 1)) (pV 1) (pC c_MOST)) (pChain fLe fLe (pC (.int 1)) (pV 2) (pC c_MOST))) pNil)))
  (qFld "Table" "width" (pV 1)
  (qFld "Table" "height" (pV 2)
  (qStm (pDrop (pFn (arity 1 f_require) [] (pCons (pAndV (pBin fLe (pCall fLen (pCons (pV 3) pNil)) (pC c_MOST_POCKETS)) (pCall fAll (pCons (pLc (pIter (pV 3)) (gN 4) pYes e_Table_init_0 [4]) pNil))) pNil)))
  (qFld "Table" "pockets" (pCall fTuple (pCons (pLc (pIter (pV 3)) (gN 4) pYes e_Table_init_1 [4]) pNil))
  (qRest r_Table_init_0))))))
def f_Table_init : Addr → List D → Rs D := runI 6 "Table" p_Table_init
/-- Table.check_point(self, point) : 0 self, 1 point -/
def p_Table_check_point : Ev → Fl :=
  (pIfS (pNot (pTr (pMeth "Table" "is_point" (arity 2 f_Table_is_point) (pV 0) (pCons (pV 1) pNil))))
    (fun ρ => Fl.err "InvalidQuestion" none ρ)
    pNext)
def f_Table_check_point : List D → Rs D := runF 2 p_Table_check_point
/-- Table.is_edge(self, point) : 0 self, 1 point -/
def p_Table_is_edge : Ev → Fl :=
  (pSeq (pDrop (pMeth "Table" "check_point" (arity 2 f_Table_check_point) (pV 0) (pCons (pV 1) pNil)))
  (pRet (pOrV (pBin (fIn2 false) (pBin fIx (pV 1) (pC (.int 0))) (pTup (pCons (pC (.int 0)) (pCons (pUn (fFld "Table" "width") (pV 0)) pNil)))) (pBin (fIn2 false) (pBin fIx (pV 1) (pC (.int 1))) (pTup (pCons (pC (.int 0)) (pCons (pUn (fFld "Table" "height") (pV 0)) pNil)))))))
def f_Table_is_edge : List D → Rs D := runF 2 p_Table_is_edge
/-- Table.is_corner(self, point) : 0 self, 1 point -/
def p_Table_is_corner : Ev → Fl :=
  (pSeq (pDrop (pMeth "Table" "check_point" (arity 2 f_Table_check_point) (pV 0) (pCons (pV 1) pNil)))
  (pRet (pAndV (pBin (fIn2 false) (pBin fIx (pV 1) (pC (.int 0))) (pTup (pCons (pC (.int 0)) (pCons (pUn (fFld "Table" "width") (pV 0)) pNil)))) (pBin (fIn2 false) (pBin fIx (pV 1) (pC (.int 1))) (pTup (pCons (pC (.int 0)) (pCons (pUn (fFld "Table" "height") (pV 0)) pNil)))))))
def f_Table_is_corner : List D → Rs D := runF 2 p_Table_is_corner
/-- Table.is_pocket(self, point) : 0 self, 1 point -/
def p_Table_is_pocket : Ev → Fl :=
  (pSeq (pDrop (pMeth "Table" "check_point" (arity 2 f_Table_check_point) (pV 0) (pCons (pV 1) pNil)))
  (pRet (pBin (fIn2 false) (pCall fTuple (pCons (pV 1) pNil)) (pUn (fFld "Table" "pockets") (pV 0)))))
def f_Table_is_pocket : List D → Rs D := runF 2 p_Table_is_pocket
/-- _law_row(_law_cell, _law_many) : 0 _law_cell, 1 _law_many, 2 _law_row_here, 3 _law_rest, 4 _law_mixed, 5 _law_k -/
def l_law_row_0 : Ev → Fl :=
  (pSeq (pSet 4 (pBin fMod (pCall fInt (pCons (pBin fAdd (pBin fMul (pV 4) (pC (.int 16807))) (pBin fMul (pC (.int 271)) (pBin fAdd (pV 5) (pC (.int 3))))) pNil)) (pC (.int 2147483629))))
  (pIfS (pB (pBin fGe (pCall fAbs (pCons (pV 0) pNil)) (pBin fPow (pC (.int 10)) (pC (.int 18)))))
    (pSeq (pApp 2 (pBin fMod (pCall fInt (pCons (pV 3) pNil)) (pC (.int 1009))))
  (pSet 3 (pBin fDiv (pV 3) (pC (.int 1009)))))
    (pApp 2 (pBin fMod (pCall fInt (pCons (pBin fDiv (pV 4) (pC (.int 7))) pNil)) (pC (.int 1009))))))
def p_law_row : Ev → Fl :=
  (pSeq (pSetO 2 (pLst pNil))
  (pSeq (pSet 3 (pCall fAbs (pCons (pV 0) pNil)))
  (pSeq (pSet 4 (pBin fMod (pCall fInt (pCons (pBin fAdd (pBin fMul (pV 3) (pC (.int 48271))) (pC (.int 69621))) pNil)) (pC (.int 2147483647))))
  (pSeq (pFor (pRg1 (pCons (pV 1) pNil)) (gN 5) l_law_row_0)
  (pFrz 2 (pRet (pV 2)))))))
def f_law_row : List D → Rs D := runF 6 p_law_row
/-- _law_numbers(_law_script, _law_many) : 0 _law_script, 1 _law_many, 2 _law_cells, 3 _law_each, 4 _law_numbers_here, 5 _law_cell, 6 _law_number -/
def l_law_numbers_0 : Ev → Fl :=
  (pApp 4 (pV 6))
def l_law_numbers_1 : Ev → Fl :=
  (pFor (pIter (pFn (arity 2 f_law_row) [] (pCons (pV 5) (pCons (pV 3) pNil)))) (gN 6) l_law_numbers_0)
def w_law_numbers_0 : Ev → Fl :=
  (pApp 4 (pC (.int 0)))
def wc_law_numbers_0 : Ev → Rs Bool :=
  (pB (pBin fLt (pCall fLen (pCons (pVo 4) pNil)) (pV 1)))
def p_law_numbers : Ev → Fl :=
  (pSeq (pSet 2 (pSl fSl (pV 0) pNo (pPart (pC (.int 63)))))
  (pSeq (pSet 3 (pBin fAdd (pC (.int 1)) (pBin fDiv (pV 1) (pCall fMax2 (pCons (pC (.int 1)) (pCons (pCall fLen (pCons (pV 2) pNil)) pNil))))))
  (pSeq (pSetO 4 (pLst pNil))
  (pSeq (pFor (pIter (pV 2)) (gN 5) l_law_numbers_1)
  (pSeq (pWhile (fun ρ => fuelI 1 ρ) wc_law_numbers_0 w_law_numbers_0)
  (pFrz 4 (pRet (pSl fSl (pV 4) pNo (pPart (pV 1))))))))))
def f_law_numbers : List D → Rs D := runF 7 p_law_numbers
/-- _law_big(_law_numbers_here, _law_at, _law_least, _law_most) : 0 _law_numbers_here, 1 _law_at, 2 _law_least, 3 _law_most, 4 _law_choice, 5 _law_value, 6 _law_k -/
def l_law_big_0 : Ev → Fl :=
  (pSet 5 (pBin fAdd (pBin fMul (pV 5) (pC (.int 1009))) (pCall fInt (pCons (pBin fIx (pV 0) (pBin fAdd (pBin fAdd (pV 1) (pC (.int 1))) (pV 6))) pNil))))
def p_law_big : Ev → Fl :=
  (pSeq (pSet 4 (pBin fMod (pCall fInt (pCons (pBin fIx (pV 0) (pV 1)) pNil)) (pC (.int 6))))
  (pSeq (pIfS (pB (pBin fEq (pV 4) (pC (.int 0))))
    (pRet (pV 2))
    pNext)
  (pSeq (pIfS (pB (pBin fEq (pV 4) (pC (.int 1))))
    (pRet (pV 3))
    pNext)
  (pSeq (pIfS (pB (pBin fLt (pV 4) (pC (.int 4))))
    (pRet (pCall fMin2 (pCons (pV 3) (pCons (pBin fAdd (pV 2) (pBin fMod (pCall fInt (pCons (pBin fIx (pV 0) (pBin fAdd (pV 1) (pC (.int 1)))) pNil)) (pC (.int 9)))) pNil))))
    pNext)
  (pSeq (pSet 5 (pC (.int 0)))
  (pSeq (pFor (pRg1 (pCons (pC (.int 10)) pNil)) (gN 6) l_law_big_0)
  (pRet (pBin fAdd (pV 2) (pBin fMod (pCall fInt (pCons (pV 5) pNil)) (pBin fAdd (pBin fSub (pV 3) (pV 2)) (pC (.int 1))))))))))))
def f_law_big : List D → Rs D := runF 7 p_law_big
/-- _law_name(_law_numbers_here, _law_at, _law_k) : 0 _law_numbers_here, 1 _law_at, 2 _law_k, 3 _law_chars, 4 _law_prefix, 5 _law_n, 6 _law_place -/
def l_law_name_0 : Ev → Fl :=
  (pSet 4 (pBin fAdd (pV 4) (pBin fIx (pV 3) (pBin fMod (pCall fInt (pCons (pBin fAdd (pBin fIx (pV 0) (pBin fAdd (pV 1) (pC (.int 2)))) (pBin fMul (pV 5) (pBin fIx (pV 0) (pBin fAdd (pV 1) (pC (.int 3)))))) pNil)) (pC (.int 36))))))
def p_law_name : Ev → Fl :=
  (pSeq (pSet 3 (pC (.str "abcdefghijklmnopqrstuvwxyz0123456789")))
  (pSeq (pSet 4 (pBin fIx (pV 3) (pBin fMod (pCall fInt (pCons (pBin fIx (pV 0) (pV 1)) pNil)) (pC (.int 26)))))
  (pSeq (pFor (pRg1 (pCons (pBin fMod (pCall fInt (pCons (pBin fIx (pV 0) (pBin fAdd (pV 1) (pC (.int 1)))) pNil)) (pC (.int 11))) pNil)) (gN 5) l_law_name_0)
  (pSeq (pSet 6 (pBin fAdd (pC (.int 1)) (pBin fMod (pCall fInt (pCons (pBin fIx (pV 0) (pBin fAdd (pV 1) (pC (.int 4)))) pNil)) (pCall fLen (pCons (pV 4) pNil)))))
  (pRet (pBin fAdd (pBin fAdd (pSl fSl (pV 4) pNo (pPart (pV 6))) (pBin fIx (pV 3) (pBin fMod (pCall fInt (pCons (pBin fAdd (pBin fIx (pV 0) (pBin fAdd (pV 1) (pC (.int 5)))) (pBin fMul (pC (.int 5)) (pV 2))) pNil)) (pC (.int 36))))) (pSl fSl (pV 4) (pPart (pV 6)) pNo)))))))
def f_law_name : List D → Rs D := runF 7 p_law_name
/-- _law_points(_law_numbers_here, _law_at, _law_width, _law_height, _law_many) : 0 _law_numbers_here, 1 _law_at, 2 _law_width, 3 _law_height, 4 _law_many, 5 _law_points_here, 6 _law_k, 7 _law_point -/
def l_law_points_0 : Ev → Fl :=
  (pSeq (pSet 7 (pTup (pCons (pFn (arity 4 f_law_big) [] (pCons (pV 0) (pCons (pBin fAdd (pV 1) (pBin fMul (pC (.int 7)) (pV 6))) (pCons (pC (.int 0)) (pCons (pV 2) pNil))))) (pCons (pFn (arity 4 f_law_big) [] (pCons (pV 0) (pCons (pBin fAdd (pBin fAdd (pV 1) (pC (.int 3))) (pBin fMul (pC (.int 7)) (pV 6))) (pCons (pC (.int 0)) (pCons (pV 3) pNil))))) pNil))))
  (pIfS (pB (pBin (fIn2 true) (pV 7) (pVo 5)))
    (pApp 5 (pV 7))
    pNext))
def p_law_points : Ev → Fl :=
  (pSeq (pSetO 5 (pLst pNil))
  (pSeq (pFor (pRg1 (pCons (pV 4) pNil)) (gN 6) l_law_points_0)
  (pFrz 5 (pRet (pV 5)))))
def f_law_points : List D → Rs D := runF 8 p_law_points
/-- _law_balls(_law_numbers_here, _law_at, _law_width, _law_height, _law_many) : 0 _law_numbers_here, 1 _law_at, 2 _law_width, 3 _law_height, 4 _law_many, 5 _law_balls_here, 6 _law_k, 7 _law_spot, 8 _law_steps, 9 _law_point -/
def l_law_balls_0 : Ev → Fl :=
  (pSeq (pSet 7 (pBin fAdd (pV 1) (pBin fMul (pC (.int 9)) (pV 6))))
  (pSeq (pSet 8 (pBin fIx (pLst (pCons (pTup (pCons (pC (.int 1)) (pCons (pC (.int 0)) pNil))) (pCons (pTup (pCons (pC (.int 0)) (pCons (pC (.int 1)) pNil))) (pCons (pTup (pCons (pUn fNeg (pC (.int 1))) (pCons (pC (.int 0)) pNil))) (pCons (pTup (pCons (pC (.int 0)) (pCons (pUn fNeg (pC (.int 1))) pNil))) (pCons (pTup (pCons (pC (.int 1)) (pCons (pC (.int 1)) pNil))) (pCons (pTup (pCons (pUn fNeg (pC (.int 1))) (pCons (pC (.int 1)) pNil))) (pCons (pTup (pCons (pC (.int 1)) (pCons (pUn fNeg (pC (.int 1))) pNil))) (pCons (pTup (pCons (pUn fNeg (pC (.int 1))) (pCons (pUn fNeg (pC (.int 1))) pNil))) pNil))))))))) (pBin fMod (pCall fInt (pCons (pBin fIx (pV 0) (pV 7)) pNil)) (pC (.int 8)))))
  (pSeq (pSet 9 (pTup (pCons (pFn (arity 4 f_law_big) [] (pCons (pV 0) (pCons (pBin fAdd (pV 7) (pC (.int 1))) (pCons (pC (.int 0)) (pCons (pV 2) pNil))))) (pCons (pFn (arity 4 f_law_big) [] (pCons (pV 0) (pCons (pBin fAdd (pV 7) (pC (.int 3))) (pCons (pC (.int 0)) (pCons (pV 3) pNil))))) pNil))))
  (pApp 5 (pBin fAdd (pBin fAdd (pBin fAdd (pTup (pCons (pFn (arity 3 f_law_name) [] (pCons (pV 0) (pCons (pC (.int 8)) (pCons (pV 6) pNil)))) pNil)) (pV 9)) (pV 8)) (pTup (pCons (pFn (arity 4 f_law_big) [] (pCons (pV 0) (pCons (pBin fAdd (pV 7) (pC (.int 5))) (pCons (pC (.int 0)) (pCons (pBin fPow (pC (.int 10)) (pC (.int 30))) pNil))))) pNil)))))))
def p_law_balls : Ev → Fl :=
  (pSeq (pSetO 5 (pLst pNil))
  (pSeq (pFor (pRg1 (pCons (pV 4) pNil)) (gN 6) l_law_balls_0)
  (pFrz 5 (pRet (pV 5)))))
def f_law_balls : List D → Rs D := runF 10 p_law_balls
/-- _law_count(_law_number, _law_most) : 0 _law_number, 1 _law_most -/
def p_law_count : Ev → Fl :=
  (pRet (pBin fIx (pLst (pCons (pC (.int 0)) (pCons (pV 1) (pCons (pBin fMod (pCall fInt (pCons (pV 0) pNil)) (pBin fAdd (pV 1) (pC (.int 1)))) (pCons (pBin fMod (pBin fDiv (pCall fInt (pCons (pV 0) pNil)) (pC (.int 7))) (pBin fAdd (pV 1) (pC (.int 1)))) pNil))))) (pBin fMod (pCall fInt (pCons (pV 0) pNil)) (pC (.int 4)))))
def f_law_count : List D → Rs D := runF 2 p_law_count
/-- _law_parts(_law_numbers_here) : 0 _law_numbers_here, 1 _law_width, 2 _law_height -/
def p_law_parts : Ev → Fl :=
  (pSeq (pSet 1 (pFn (arity 4 f_law_big) [] (pCons (pV 0) (pCons (pC (.int 14)) (pCons (pC (.int 1)) (pCons (pBin fPow (pC (.int 10)) (pC (.int 30))) pNil))))))
  (pSeq (pSet 2 (pFn (arity 4 f_law_big) [] (pCons (pV 0) (pCons (pC (.int 26)) (pCons (pC (.int 1)) (pCons (pBin fPow (pC (.int 10)) (pC (.int 30))) pNil))))))
  (pRet (pLst (pCons (pV 1) (pCons (pV 2) (pCons (pFn (arity 5 f_law_points) [] (pCons (pV 0) (pCons (pC (.int 40)) (pCons (pV 1) (pCons (pV 2) (pCons (pFn (arity 2 f_law_count) [] (pCons (pBin fIx (pV 0) (pC (.int 38))) (pCons (pC (.int 12)) pNil))) pNil)))))) pNil)))))))
def f_law_parts : List D → Rs D := runF 3 p_law_parts
/-- _law_made(_law_parts_here) : 0 _law_parts_here -/
def p_law_made : Ev → Fl :=
  (pRet (pFn (arity 3 (anyX f_Table_init)) [] (pCons (pBin fIx (pV 0) (pC (.int 0))) (pCons (pBin fIx (pV 0) (pC (.int 1))) (pCons (pCall fList (pCons (pBin fIx (pV 0) (pC (.int 2))) pNil)) pNil)))))
def f_law_made : List D → Rs D := runF 1 p_law_made
/-- _law_same(_law_table, _law_parts_here) : 0 _law_table, 1 _law_parts_here, 2 _law_point -/
def e_law_same_0 : Ev → Rs D :=
  (pCall fTuple (pCons (pV 2) pNil))
def p_law_same : Ev → Fl :=
  (pRet (pBin fEq (pLst (pCons (pUn (fFld "Table" "width") (pV 0)) (pCons (pUn (fFld "Table" "height") (pV 0)) (pCons (pUn (fFld "Table" "pockets") (pV 0)) pNil)))) (pLst (pCons (pBin fIx (pV 1) (pC (.int 0))) (pCons (pBin fIx (pV 1) (pC (.int 1))) (pCons (pCall fTuple (pCons (pLc (pIter (pBin fIx (pV 1) (pC (.int 2)))) (gN 2) pYes e_law_same_0 [2]) pNil)) pNil))))))
def f_law_same : List D → Rs D := runF 3 p_law_same
/-- Table.with_size(self, width, height) : 0 self, 1 width, 2 height -/
def p_Table_with_size : Ev → Fl :=
  (pRet (pFn (arity 3 (anyX f_Table_init)) [] (pCons (pV 1) (pCons (pV 2) (pCons (pUn (fFld "Table" "pockets") (pV 0)) pNil)))))
def f_Table_with_size : List D → Rs D := runF 3 p_Table_with_size
/-- Table.with_pocket(self, point) : 0 self, 1 point -/
def p_Table_with_pocket : Ev → Fl :=
  (pRet (pFn (arity 3 (anyX f_Table_init)) [] (pCons (pUn (fFld "Table" "width") (pV 0)) (pCons (pUn (fFld "Table" "height") (pV 0)) (pCons (pBin fAdd (pUn (fFld "Table" "pockets") (pV 0)) (pTup (pCons (pV 1) pNil))) pNil)))))
def f_Table_with_pocket : List D → Rs D := runF 2 p_Table_with_pocket
/-- Table.without_pocket(self, point) : 0 self, 1 point, 2 other -/
def e_Table_without_pocket_0 : Ev → Rs D :=
  (pV 2)
def t_Table_without_pocket_0 : Ev → Rs Bool :=
  (pB (pBin fNe (pV 2) (pCall fTuple (pCons (pV 1) pNil))))
def p_Table_without_pocket : Ev → Fl :=
  (pSeq (pIfS (pNot (pTr (pMeth "Table" "is_pocket" (arity 2 f_Table_is_pocket) (pV 0) (pCons (pV 1) pNil))))
    (fun ρ => Fl.err "InvalidQuestion" none ρ)
    pNext)
  (pRet (pFn (arity 3 (anyX f_Table_init)) [] (pCons (pUn (fFld "Table" "width") (pV 0)) (pCons (pUn (fFld "Table" "height") (pV 0)) (pCons (pLc (pIter (pUn (fFld "Table" "pockets") (pV 0))) (gN 2) t_Table_without_pocket_0 e_Table_without_pocket_0 [2]) pNil))))))
def f_Table_without_pocket : List D → Rs D := runF 3 p_Table_without_pocket
/-- Table.turned(self) : 0 self, 1 x, 2 y -/
def e_Table_turned_0 : Ev → Rs D :=
  (pTup (pCons (pV 2) (pCons (pV 1) pNil)))
def p_Table_turned : Ev → Fl :=
  (pRet (pFn (arity 3 (anyX f_Table_init)) [] (pCons (pUn (fFld "Table" "height") (pV 0)) (pCons (pUn (fFld "Table" "width") (pV 0)) (pCons (pLc (pIter (pUn (fFld "Table" "pockets") (pV 0))) (gTp (gsCons (gN 1) (gsCons (gN 2) gsNil))) pYes e_Table_turned_0 [1, 2]) pNil)))))
def f_Table_turned : List D → Rs D := runF 3 p_Table_turned
abbrev c_MOST_NAME_CHARS : D := .int 12
abbrev c_NAME_CHARS : D := .str "abcdefghijklmnopqrstuvwxyz0123456789"
abbrev c_MOST_BALLS : D := .int 12
/-- is_name(text) : 0 text, 1 char -/
def e_is_name_0 : Ev → Rs D :=
  (pBin (fIn2 false) (pV 1) (pC c_NAME_CHARS))
def p_is_name : Ev → Fl :=
  (pSeq (pIfS (pOr (pNot (pB (pChain fLe fLe (pC (.int 1)) (pCall fLen (pCons (pV 0) pNil)) (pC c_MOST_NAME_CHARS)))) (pB (pBin (fIn2 false) (pBin fIx (pV 0) (pC (.int 0))) (pC (.str "0123456789")))))
    (pRet (pC (.bl false)))
    pNext)
  (pRet (pCall fAll (pCons (pLc (pIter (pV 0)) (gN 1) pYes e_is_name_0 [1]) pNil))))
def f_is_name : List D → Rs D := runF 2 p_is_name
/-- is_ball(table, ball) : 0 table, 1 ball, 2 _, 3 x, 4 y, 5 dx, 6 dy, 7 minute -/
def p_is_ball : Ev → Fl :=
  (pSeq (pIfS (pOr (pB (pBin fNe (pCall fLen (pCons (pV 1) pNil)) (pC (.int 6)))) (pNot (pTr (pFn (arity 1 f_is_name) [] (pCons (pBin fIx (pV 1) (pC (.int 0))) pNil)))))
    (pRet (pC (.bl false)))
    pNext)
  (pSeq (pAsg (gTp (gsCons (gN 2) (gsCons (gN 3) (gsCons (gN 4) (gsCons (gN 5) (gsCons (gN 6) (gsCons (gN 7) gsNil))))))) (pV 1))
  (pSeq (pIfS (pOr (pNot (pTr (pMeth "Table" "is_point" (arity 2 f_Table_is_point) (pV 0) (pCons (pTup (pCons (pV 3) (pCons (pV 4) pNil))) pNil)))) (pNot (pB (pChain fLe fLe (pC (.int 0)) (pV 7) (pC c_MOST)))))
    (pRet (pC (.bl false)))
    pNext)
  (pRet (pAndV (pBin (fIn2 false) (pV 5) (pTup (pCons (pUn fNeg (pC (.int 1))) (pCons (pC (.int 0)) (pCons (pC (.int 1)) pNil))))) (pAndV (pBin (fIn2 false) (pV 6) (pTup (pCons (pUn fNeg (pC (.int 1))) (pCons (pC (.int 0)) (pCons (pC (.int 1)) pNil))))) (pBin fNe (pTup (pCons (pV 5) (pCons (pV 6) pNil))) (pTup (pCons (pC (.int 0)) (pCons (pC (.int 0)) pNil))))))))))
def f_is_ball : List D → Rs D := runF 8 p_is_ball
/-- check_ball(table, ball) : 0 table, 1 ball -/
def p_check_ball : Ev → Fl :=
  (pIfS (pNot (pTr (pFn (arity 2 f_is_ball) [] (pCons (pV 0) (pCons (pV 1) pNil)))))
    (fun ρ => Fl.err "InvalidBall" none ρ)
    pNext)
def f_check_ball : List D → Rs D := runF 2 p_check_ball
/-- check_balls(table, balls) : 0 table, 1 balls, 2 number, 3 ball, 4 other -/
def e_check_balls_0 : Ev → Rs D :=
  (pBin fIx (pV 4) (pC (.int 0)))
def l_check_balls_0 : Ev → Fl :=
  (pSeq (pDrop (pFn (arity 2 f_check_ball) [] (pCons (pV 0) (pCons (pV 3) pNil))))
  (pIfS (pB (pBin (fIn2 false) (pBin fIx (pV 3) (pC (.int 0))) (pLc (pIter (pSl fSl (pV 1) pNo (pPart (pV 2)))) (gN 4) pYes e_check_balls_0 [4])))
    (fun ρ => Fl.err "InvalidBall" none ρ)
    pNext))
def p_check_balls : Ev → Fl :=
  (pSeq (pFor (pEnum2 (pCons (pV 1) pNil)) (gTp (gsCons (gN 2) (gsCons (gN 3) gsNil))) l_check_balls_0)
  (pIfS (pB (pBin fGt (pCall fLen (pCons (pV 1) pNil)) (pC c_MOST_BALLS)))
    (fun ρ => Fl.err "InvalidBall" none ρ)
    pNext))
def f_check_balls : List D → Rs D := runF 5 p_check_balls
/-- back(table, ball) : 0 table, 1 ball, 2 name, 3 x, 4 y, 5 dx, 6 dy, 7 minute -/
def p_back : Ev → Fl :=
  (pSeq (pDrop (pFn (arity 2 f_check_ball) [] (pCons (pV 0) (pCons (pV 1) pNil))))
  (pSeq (pAsg (gTp (gsCons (gN 2) (gsCons (gN 3) (gsCons (gN 4) (gsCons (gN 5) (gsCons (gN 6) (gsCons (gN 7) gsNil))))))) (pV 1))
  (pRet (pTup (pCons (pV 2) (pCons (pV 3) (pCons (pV 4) (pCons (pUn fNeg (pV 5)) (pCons (pUn fNeg (pV 6)) (pCons (pV 7) pNil))))))))))
def f_back : List D → Rs D := runF 8 p_back
/-- mirrored(table, ball, sides, ends) : 0 table, 1 ball, 2 sides, 3 ends, 4 name, 5 x, 6 y, 7 dx, 8 dy, 9 minute -/
def p_mirrored : Ev → Fl :=
  (pSeq (pDrop (pFn (arity 2 f_check_ball) [] (pCons (pV 0) (pCons (pV 1) pNil))))
  (pSeq (pAsg (gTp (gsCons (gN 4) (gsCons (gN 5) (gsCons (gN 6) (gsCons (gN 7) (gsCons (gN 8) (gsCons (gN 9) gsNil))))))) (pV 1))
  (pSeq (pIfS (pTr (pV 2))
    (pPar 5 7 (pCons (pBin fSub (pUn (fFld "Table" "width") (pV 0)) (pV 5)) (pCons (pUn fNeg (pV 7)) pNil)))
    pNext)
  (pSeq (pIfS (pTr (pV 3))
    (pPar 6 8 (pCons (pBin fSub (pUn (fFld "Table" "height") (pV 0)) (pV 6)) (pCons (pUn fNeg (pV 8)) pNil)))
    pNext)
  (pRet (pTup (pCons (pV 4) (pCons (pV 5) (pCons (pV 6) (pCons (pV 7) (pCons (pV 8) (pCons (pV 9) pNil))))))))))))
def f_mirrored : List D → Rs D := runF 10 p_mirrored
/-- turned(table, ball) : 0 table, 1 ball, 2 name, 3 x, 4 y, 5 dx, 6 dy, 7 minute -/
def p_turned : Ev → Fl :=
  (pSeq (pDrop (pFn (arity 2 f_check_ball) [] (pCons (pV 0) (pCons (pV 1) pNil))))
  (pSeq (pAsg (gTp (gsCons (gN 2) (gsCons (gN 3) (gsCons (gN 4) (gsCons (gN 5) (gsCons (gN 6) (gsCons (gN 7) gsNil))))))) (pV 1))
  (pRet (pTup (pCons (pV 2) (pCons (pV 4) (pCons (pV 3) (pCons (pV 6) (pCons (pV 5) (pCons (pV 7) pNil))))))))))
def f_turned : List D → Rs D := runF 8 p_turned
abbrev c_MOST_DIGITS : D := .int 31
abbrev c_DIGITS : D := .str "0123456789"
/-- is_number(word) : 0 word, 1 char -/
def e_is_number_0 : Ev → Rs D :=
  (pBin (fIn2 false) (pV 1) (pC c_DIGITS))
def p_is_number : Ev → Fl :=
  (pSeq (pIfS (pOr (pNot (pB (pChain fLe fLe (pC (.int 1)) (pCall fLen (pCons (pV 0) pNil)) (pC c_MOST_DIGITS)))) (pNot (pTr (pCall fAll (pCons (pLc (pIter (pV 0)) (gN 1) pYes e_is_number_0 [1]) pNil)))))
    (pRet (pC (.bl false)))
    pNext)
  (pRet (pOrV (pBin fEq (pV 0) (pC (.str "0"))) (pBin fNe (pBin fIx (pV 0) (pC (.int 0))) (pC (.str "0"))))))
def f_is_number : List D → Rs D := runF 2 p_is_number
/-- is_pair(words, word) : 0 words, 1 word -/
def p_is_pair : Ev → Fl :=
  (pRet (pAndV (pBin fEq (pCall fLen (pCons (pV 0) pNil)) (pC (.int 3))) (pAndV (pBin fEq (pBin fIx (pV 0) (pC (.int 0))) (pV 1)) (pAndV (pFn (arity 1 f_is_number) [] (pCons (pBin fIx (pV 0) (pC (.int 1))) pNil)) (pFn (arity 1 f_is_number) [] (pCons (pBin fIx (pV 0) (pC (.int 2))) pNil))))))
def f_is_pair : List D → Rs D := runF 2 p_is_pair
/-- phase_of(size, place, step) : 0 size, 1 place, 2 step -/
def p_phase_of : Ev → Fl :=
  (pRet (pIf (pB (pBin fEq (pV 2) (pC (.int 1)))) (pV 1) (pBin fMod (pUn fNeg (pV 1)) (pBin fMul (pC (.int 2)) (pV 0)))))
def f_phase_of : List D → Rs D := runF 3 p_phase_of
/-- fold(size, phase) : 0 size, 1 phase, 2 rest -/
def p_fold : Ev → Fl :=
  (pSeq (pSet 2 (pBin fMod (pV 1) (pBin fMul (pC (.int 2)) (pV 0))))
  (pRet (pCall fMin2 (pCons (pV 2) (pCons (pBin fSub (pBin fMul (pC (.int 2)) (pV 0)) (pV 2)) pNil)))))
def f_fold : List D → Rs D := runF 3 p_fold
/-- part_at(size, place, step, passed) : 0 size, 1 place, 2 step, 3 passed -/
def p_part_at : Ev → Fl :=
  (pSeq (pIfS (pB (pBin fEq (pV 2) (pC (.int 0))))
    (pRet (pV 1))
    pNext)
  (pRet (pFn (arity 2 f_fold) [] (pCons (pV 0) (pCons (pBin fAdd (pFn (arity 3 f_phase_of) [] (pCons (pV 0) (pCons (pV 1) (pCons (pV 2) pNil)))) (pV 3)) pNil)))))
def f_part_at : List D → Rs D := runF 4 p_part_at
/-- step_at(size, place, step, passed) : 0 size, 1 place, 2 step, 3 passed -/
def p_step_at : Ev → Fl :=
  (pSeq (pIfS (pB (pBin fEq (pV 2) (pC (.int 0))))
    (pRet (pC (.int 0)))
    pNext)
  (pRet (pIf (pB (pBin fLt (pBin fMod (pBin fAdd (pFn (arity 3 f_phase_of) [] (pCons (pV 0) (pCons (pV 1) (pCons (pV 2) pNil)))) (pV 3)) (pBin fMul (pC (.int 2)) (pV 0))) (pV 0))) (pC (.int 1)) (pUn fNeg (pC (.int 1))))))
def f_step_at : List D → Rs D := runF 4 p_step_at
/-- parts_of(table, ball) : 0 table, 1 ball -/
def p_parts_of : Ev → Fl :=
  (pRet (pTup (pCons (pTup (pCons (pUn (fFld "Table" "width") (pV 0)) (pCons (pBin fIx (pV 1) (pC (.int 1))) (pCons (pBin fIx (pV 1) (pC (.int 3))) pNil)))) (pCons (pTup (pCons (pUn (fFld "Table" "height") (pV 0)) (pCons (pBin fIx (pV 1) (pC (.int 2))) (pCons (pBin fIx (pV 1) (pC (.int 4))) pNil)))) pNil))))
def f_parts_of : List D → Rs D := runF 2 p_parts_of
/-- place_at(table, ball, minute) : 0 table, 1 ball, 2 minute, 3 size, 4 place, 5 step -/
def e_place_at_0 : Ev → Rs D :=
  (pFn (arity 4 f_part_at) [] (pCons (pV 3) (pCons (pV 4) (pCons (pV 5) (pCons (pBin fSub (pV 2) (pBin fIx (pV 1) (pC (.int 5)))) pNil)))))
def p_place_at : Ev → Fl :=
  (pSeq (pDrop (pFn (arity 2 f_check_ball) [] (pCons (pV 0) (pCons (pV 1) pNil))))
  (pSeq (pIfS (pB (pBin fLt (pV 2) (pBin fIx (pV 1) (pC (.int 5)))))
    (pRet (pC .non))
    pNext)
  (pRet (pCall fTuple (pCons (pLc (pIter (pFn (arity 2 f_parts_of) [] (pCons (pV 0) (pCons (pV 1) pNil)))) (gTp (gsCons (gN 3) (gsCons (gN 4) (gsCons (gN 5) gsNil)))) pYes e_place_at_0 [3, 4, 5]) pNil)))))
def f_place_at : List D → Rs D := runF 6 p_place_at
/-- heading_at(table, ball, minute) : 0 table, 1 ball, 2 minute, 3 size, 4 place, 5 step -/
def e_heading_at_0 : Ev → Rs D :=
  (pFn (arity 4 f_step_at) [] (pCons (pV 3) (pCons (pV 4) (pCons (pV 5) (pCons (pBin fSub (pV 2) (pBin fIx (pV 1) (pC (.int 5)))) pNil)))))
def p_heading_at : Ev → Fl :=
  (pSeq (pDrop (pFn (arity 2 f_check_ball) [] (pCons (pV 0) (pCons (pV 1) pNil))))
  (pSeq (pIfS (pB (pBin fLt (pV 2) (pBin fIx (pV 1) (pC (.int 5)))))
    (pRet (pC .non))
    pNext)
  (pRet (pCall fTuple (pCons (pLc (pIter (pFn (arity 2 f_parts_of) [] (pCons (pV 0) (pCons (pV 1) pNil)))) (gTp (gsCons (gN 3) (gsCons (gN 4) (gsCons (gN 5) gsNil)))) pYes e_heading_at_0 [3, 4, 5]) pNil)))))
def f_heading_at : List D → Rs D := runF 6 p_heading_at
/-- _law_is_integer(_law_actual) : 0 _law_actual -/
def p_law_is_integer : Ev → Fl :=
  (pRet (pAndV (pIsi "int" (pV 0)) (pNotV (pIsi "bool" (pV 0)))))
def f_law_is_integer : List D → Rs D := runF 1 p_law_is_integer
/-- _law_size(_law_number) : 0 _law_number -/
def p_law_size : Ev → Fl :=
  (pRet (pBin fIx (pLst (pCons (pBin fAdd (pC (.int 1)) (pBin fMod (pCall fInt (pCons (pV 0) pNil)) (pC (.int 7)))) (pCons (pBin fAdd (pC (.int 1)) (pBin fMod (pCall fInt (pCons (pV 0) pNil)) (pC (.int 4)))) (pCons (pC (.int 6)) (pCons (pC (.int 4)) (pCons (pBin fAdd (pC (.int 1)) (pBin fMod (pCall fInt (pCons (pV 0) pNil)) (pC (.int 9)))) (pCons (pC (.int 2)) (pCons (pC (.int 3)) (pCons (pC (.int 1)) pNil))))))))) (pBin fMod (pCall fInt (pCons (pBin fDiv (pV 0) (pC (.int 9))) pNil)) (pC (.int 8)))))
def f_law_size : List D → Rs D := runF 1 p_law_size
/-- _law_ball(_law_numbers_here, _law_at, _law_width, _law_height, _law_name) : 0 _law_numbers_here, 1 _law_at, 2 _law_width, 3 _law_height, 4 _law_name, 5 _law_dx, 6 _law_dy, 7 _law_x, 8 _law_y -/
def p_law_ball : Ev → Fl :=
  (pSeq (pAsg (gTp (gsCons (gN 5) (gsCons (gN 6) gsNil))) (pBin fIx (pLst (pCons (pTup (pCons (pC (.int 1)) (pCons (pC (.int 1)) pNil))) (pCons (pTup (pCons (pC (.int 1)) (pCons (pUn fNeg (pC (.int 1))) pNil))) (pCons (pTup (pCons (pUn fNeg (pC (.int 1))) (pCons (pC (.int 1)) pNil))) (pCons (pTup (pCons (pUn fNeg (pC (.int 1))) (pCons (pUn fNeg (pC (.int 1))) pNil))) (pCons (pTup (pCons (pC (.int 1)) (pCons (pC (.int 0)) pNil))) (pCons (pTup (pCons (pC (.int 0)) (pCons (pUn fNeg (pC (.int 1))) pNil))) (pCons (pTup (pCons (pUn fNeg (pC (.int 1))) (pCons (pC (.int 0)) pNil))) (pCons (pTup (pCons (pC (.int 0)) (pCons (pC (.int 1)) pNil))) pNil))))))))) (pBin fMod (pCall fInt (pCons (pBin fIx (pV 0) (pV 1)) pNil)) (pC (.int 8)))))
  (pSeq (pSet 7 (pBin fMod (pCall fInt (pCons (pBin fIx (pV 0) (pBin fAdd (pV 1) (pC (.int 1)))) pNil)) (pBin fAdd (pV 2) (pC (.int 1)))))
  (pSeq (pSet 8 (pBin fMod (pCall fInt (pCons (pBin fIx (pV 0) (pBin fAdd (pV 1) (pC (.int 2)))) pNil)) (pBin fAdd (pV 3) (pC (.int 1)))))
  (pSeq (pIfS (pB (pBin fEq (pBin fMod (pCall fInt (pCons (pBin fIx (pV 0) (pBin fAdd (pV 1) (pC (.int 3)))) pNil)) (pC (.int 4))) (pC (.int 1))))
    (pSet 7 (pBin fIx (pLst (pCons (pC (.int 0)) (pCons (pV 2) pNil))) (pBin fMod (pCall fInt (pCons (pBin fIx (pV 0) (pBin fAdd (pV 1) (pC (.int 1)))) pNil)) (pC (.int 2)))))
    pNext)
  (pSeq (pIfS (pB (pBin fEq (pBin fMod (pCall fInt (pCons (pBin fIx (pV 0) (pBin fAdd (pV 1) (pC (.int 3)))) pNil)) (pC (.int 4))) (pC (.int 2))))
    (pSet 8 (pBin fIx (pLst (pCons (pC (.int 0)) (pCons (pV 3) pNil))) (pBin fMod (pCall fInt (pCons (pBin fIx (pV 0) (pBin fAdd (pV 1) (pC (.int 2)))) pNil)) (pC (.int 2)))))
    pNext)
  (pRet (pTup (pCons (pV 4) (pCons (pV 7) (pCons (pV 8) (pCons (pV 5) (pCons (pV 6) (pCons (pBin fMod (pCall fInt (pCons (pBin fDiv (pBin fIx (pV 0) (pBin fAdd (pV 1) (pC (.int 3)))) (pC (.int 4))) pNil)) (pC (.int 9))) pNil)))))))))))))
def f_law_ball : List D → Rs D := runF 9 p_law_ball
/-- _law_turned(_law_size_here, _law_place, _law_step) : 0 _law_size_here, 1 _law_place, 2 _law_step -/
def p_law_turned : Ev → Fl :=
  (pSeq (pIfS (pOr (pB (pBin fLt (pBin fAdd (pV 1) (pV 2)) (pC (.int 0)))) (pB (pBin fGt (pBin fAdd (pV 1) (pV 2)) (pV 0))))
    (pRet (pUn fNeg (pV 2)))
    pNext)
  (pRet (pV 2)))
def f_law_turned : List D → Rs D := runF 3 p_law_turned
/-- _law_walk(_law_width, _law_height, _law_ball_here, _law_many) : 0 _law_width, 1 _law_height, 2 _law_ball_here, 3 _law_many, 4 _law_name, 5 _law_x, 6 _law_y, 7 _law_dx, 8 _law_dy, 9 _law_minute, 10 _law_rows, 11 _law_k -/
def l_law_walk_0 : Ev → Fl :=
  (pSeq (pSet 7 (pFn (arity 3 f_law_turned) [] (pCons (pV 0) (pCons (pV 5) (pCons (pV 7) pNil)))))
  (pSeq (pSet 8 (pFn (arity 3 f_law_turned) [] (pCons (pV 1) (pCons (pV 6) (pCons (pV 8) pNil)))))
  (pSeq (pApp 10 (pTup (pCons (pV 5) (pCons (pV 6) (pCons (pV 7) (pCons (pV 8) pNil))))))
  (pSeq (pSet 5 (pBin fAdd (pV 5) (pV 7)))
  (pSet 6 (pBin fAdd (pV 6) (pV 8)))))))
def p_law_walk : Ev → Fl :=
  (pSeq (pAsg (gTp (gsCons (gN 4) (gsCons (gN 5) (gsCons (gN 6) (gsCons (gN 7) (gsCons (gN 8) (gsCons (gN 9) gsNil))))))) (pV 2))
  (pSeq (pSetO 10 (pLst pNil))
  (pSeq (pFor (pRg1 (pCons (pV 3) pNil)) (gN 11) l_law_walk_0)
  (pFrz 10 (pRet (pV 10))))))
def f_law_walk : List D → Rs D := runF 12 p_law_walk
/-- _law_great(_law_numbers_here, _law_at) : 0 _law_numbers_here, 1 _law_at, 2 _law_total, 3 _law_k -/
def l_law_great_0 : Ev → Fl :=
  (pSet 2 (pBin fAdd (pBin fMul (pV 2) (pC (.int 10007))) (pBin fIx (pV 0) (pBin fAdd (pBin fAdd (pV 1) (pC (.int 1))) (pV 3)))))
def p_law_great : Ev → Fl :=
  (pSeq (pSet 2 (pC (.int 0)))
  (pSeq (pFor (pRg1 (pCons (pBin fAdd (pC (.int 1)) (pBin fMod (pCall fInt (pCons (pBin fIx (pV 0) (pV 1)) pNil)) (pC (.int 9)))) pNil)) (gN 3) l_law_great_0)
  (pRet (pCall fMin2 (pCons (pBin fPow (pC (.int 10)) (pC (.int 30))) (pCons (pBin fAdd (pC (.int 1)) (pV 2)) pNil))))))
def f_law_great : List D → Rs D := runF 4 p_law_great
/-- _law_greater(_law_numbers_here, _law_at, _law_width, _law_height, _law_name) : 0 _law_numbers_here, 1 _law_at, 2 _law_width, 3 _law_height, 4 _law_name, 5 _law_dx, 6 _law_dy, 7 _law_x, 8 _law_y, 9 _law_most, 10 _law_k -/
def l_law_greater_0 : Ev → Fl :=
  (pSet 9 (pBin fMul (pV 9) (pC (.int 10))))
def p_law_greater : Ev → Fl :=
  (pSeq (pAsg (gTp (gsCons (gN 5) (gsCons (gN 6) gsNil))) (pBin fIx (pLst (pCons (pTup (pCons (pC (.int 1)) (pCons (pC (.int 1)) pNil))) (pCons (pTup (pCons (pC (.int 1)) (pCons (pUn fNeg (pC (.int 1))) pNil))) (pCons (pTup (pCons (pUn fNeg (pC (.int 1))) (pCons (pC (.int 1)) pNil))) (pCons (pTup (pCons (pUn fNeg (pC (.int 1))) (pCons (pUn fNeg (pC (.int 1))) pNil))) (pCons (pTup (pCons (pC (.int 1)) (pCons (pC (.int 0)) pNil))) (pCons (pTup (pCons (pC (.int 0)) (pCons (pUn fNeg (pC (.int 1))) pNil))) (pCons (pTup (pCons (pUn fNeg (pC (.int 1))) (pCons (pC (.int 0)) pNil))) (pCons (pTup (pCons (pC (.int 0)) (pCons (pC (.int 1)) pNil))) pNil))))))))) (pBin fMod (pCall fInt (pCons (pBin fIx (pV 0) (pV 1)) pNil)) (pC (.int 8)))))
  (pSeq (pSet 7 (pBin fMod (pCall fInt (pCons (pFn (arity 2 f_law_great) [] (pCons (pV 0) (pCons (pBin fAdd (pV 1) (pC (.int 1))) pNil))) pNil)) (pBin fAdd (pV 2) (pC (.int 1)))))
  (pSeq (pSet 8 (pBin fMod (pCall fInt (pCons (pFn (arity 2 f_law_great) [] (pCons (pV 0) (pCons (pBin fAdd (pV 1) (pC (.int 11))) pNil))) pNil)) (pBin fAdd (pV 3) (pC (.int 1)))))
  (pSeq (pSet 9 (pC (.int 1)))
  (pSeq (pFor (pRg1 (pCons (pBin fMod (pCall fInt (pCons (pBin fIx (pV 0) (pBin fAdd (pV 1) (pC (.int 31)))) pNil)) (pC (.int 30))) pNil)) (gN 10) l_law_greater_0)
  (pRet (pTup (pCons (pV 4) (pCons (pV 7) (pCons (pV 8) (pCons (pV 5) (pCons (pV 6) (pCons (pBin fMod (pCall fInt (pCons (pFn (arity 2 f_law_great) [] (pCons (pV 0) (pCons (pBin fAdd (pV 1) (pC (.int 21))) pNil))) pNil)) (pV 9)) pNil)))))))))))))
def f_law_greater : List D → Rs D := runF 11 p_law_greater
/-- _law_part(_law_size_here, _law_place, _law_step, _law_passed) : 0 _law_size_here, 1 _law_place, 2 _law_step, 3 _law_passed, 4 _law_total, 5 _law_rounds, 6 _law_rest -/
def p_law_part : Ev → Fl :=
  (pSeq (pSet 4 (pBin fAdd (pV 1) (pBin fMul (pV 2) (pV 3))))
  (pSeq (pSet 5 (pBin fDiv (pV 4) (pV 0)))
  (pSeq (pSet 6 (pBin fSub (pV 4) (pBin fMul (pV 5) (pV 0))))
  (pSeq (pIfS (pB (pBin fEq (pBin fMod (pCall fInt (pCons (pV 5) pNil)) (pC (.int 2))) (pC (.int 1))))
    (pSet 6 (pBin fSub (pV 0) (pV 6)))
    pNext)
  (pRet (pV 6))))))
def f_law_part : List D → Rs D := runF 7 p_law_part
/-- _law_where(_law_width, _law_height, _law_ball_here, _law_minute) : 0 _law_width, 1 _law_height, 2 _law_ball_here, 3 _law_minute, 4 _law_name, 5 _law_x, 6 _law_y, 7 _law_dx, 8 _law_dy, 9 _law_start -/
def p_law_where : Ev → Fl :=
  (pSeq (pAsg (gTp (gsCons (gN 4) (gsCons (gN 5) (gsCons (gN 6) (gsCons (gN 7) (gsCons (gN 8) (gsCons (gN 9) gsNil))))))) (pV 2))
  (pRet (pTup (pCons (pFn (arity 4 f_law_part) [] (pCons (pV 0) (pCons (pV 5) (pCons (pV 7) (pCons (pBin fSub (pV 3) (pV 9)) pNil))))) (pCons (pFn (arity 4 f_law_part) [] (pCons (pV 1) (pCons (pV 6) (pCons (pV 8) (pCons (pBin fSub (pV 3) (pV 9)) pNil))))) pNil)))))
def f_law_where : List D → Rs D := runF 10 p_law_where
/-- inverse(number, modulus) : 0 number, 1 modulus, 2 high, 3 low, 4 last, 5 now, 6 times -/
def w_inverse_0 : Ev → Fl :=
  (pSeq (pSet 6 (pBin fDiv (pV 2) (pV 3)))
  (pSeq (pPar 2 3 (pCons (pV 3) (pCons (pBin fSub (pV 2) (pBin fMul (pV 6) (pV 3))) pNil)))
  (pPar 4 5 (pCons (pV 5) (pCons (pBin fSub (pV 4) (pBin fMul (pV 6) (pV 5))) pNil)))))
def wc_inverse_0 : Ev → Rs Bool :=
  (pTr (pV 3))
def p_inverse : Ev → Fl :=
  (pSeq (pPar 2 3 (pCons (pV 1) (pCons (pBin fMod (pV 0) (pV 1)) pNil)))
  (pSeq (pAsg (gTp (gsCons (gN 4) (gsCons (gN 5) gsNil))) (pTup (pCons (pC (.int 0)) (pCons (pC (.int 1)) pNil))))
  (pSeq (pWhile (fun ρ => fuelI 3 ρ) wc_inverse_0 w_inverse_0)
  (pRet (pBin fMod (pV 4) (pV 1))))))
def f_inverse : List D → Rs D := runF 7 p_inverse
/-- agreed(one, other) : 0 one, 1 other, 2 first, 3 modulus, 4 second, 5 by, 6 common, 7 rounds, 8 whole -/
def p_agreed : Ev → Fl :=
  (pSeq (pAsg (gTp (gsCons (gN 2) (gsCons (gN 3) gsNil))) (pV 0))
  (pSeq (pAsg (gTp (gsCons (gN 4) (gsCons (gN 5) gsNil))) (pV 1))
  (pSeq (pSet 6 (pCall fGcd (pCons (pV 3) (pCons (pV 5) pNil))))
  (pSeq (pIfS (pB (pBin fNe (pBin fMod (pBin fSub (pV 4) (pV 2)) (pV 6)) (pC (.int 0))))
    (pRet (pC .non))
    pNext)
  (pSeq (pSet 5 (pBin fDiv (pV 5) (pV 6)))
  (pSeq (pSet 7 (pBin fMod (pBin fMul (pBin fDiv (pBin fSub (pV 4) (pV 2)) (pV 6)) (pFn (arity 2 f_inverse) [] (pCons (pBin fDiv (pV 3) (pV 6)) (pCons (pV 5) pNil)))) (pV 5)))
  (pSeq (pSet 8 (pBin fMul (pV 3) (pV 5)))
  (pRet (pTup (pCons (pBin fMod (pBin fAdd (pV 2) (pBin fMul (pV 7) (pV 3))) (pV 8)) (pCons (pV 8) pNil)))))))))))
def f_agreed : List D → Rs D := runF 9 p_agreed
/-- period(table, ball) : 0 table, 1 ball, 2 periods, 3 found, 4 minutes, 5 size, 6 _, 7 step -/
def e_period_0 : Ev → Rs D :=
  (pBin fMul (pC (.int 2)) (pV 5))
def t_period_0 : Ev → Rs Bool :=
  (pB (pBin fNe (pV 7) (pC (.int 0))))
def l_period_0 : Ev → Fl :=
  (pSet 3 (pBin fMul (pBin fDiv (pV 3) (pCall fGcd (pCons (pV 3) (pCons (pV 4) pNil)))) (pV 4)))
def p_period : Ev → Fl :=
  (pSeq (pDrop (pFn (arity 2 f_check_ball) [] (pCons (pV 0) (pCons (pV 1) pNil))))
  (pSeq (pSet 2 (pLc (pIter (pFn (arity 2 f_parts_of) [] (pCons (pV 0) (pCons (pV 1) pNil)))) (gTp (gsCons (gN 5) (gsCons (gN 6) (gsCons (gN 7) gsNil)))) t_period_0 e_period_0 [5, 6, 7]))
  (pSeq (pSet 3 (pC (.int 1)))
  (pSeq (pFor (pIter (pV 2)) (gN 4) l_period_0)
  (pRet (pV 3))))))
def f_period : List D → Rs D := runF 8 p_period
/-- edge_class(size, place, step) : 0 size, 1 place, 2 step -/
def p_edge_class : Ev → Fl :=
  (pSeq (pIfS (pB (pBin fNe (pV 2) (pC (.int 0))))
    (pRet (pTup (pCons (pBin fMod (pUn fNeg (pFn (arity 3 f_phase_of) [] (pCons (pV 0) (pCons (pV 1) (pCons (pV 2) pNil))))) (pV 0)) (pCons (pV 0) pNil))))
    pNext)
  (pRet (pIf (pB (pBin (fIn2 false) (pV 1) (pTup (pCons (pC (.int 0)) (pCons (pV 0) pNil))))) (pTup (pCons (pC (.int 0)) (pCons (pC (.int 1)) pNil))) (pC .non))))
def f_edge_class : List D → Rs D := runF 3 p_edge_class
/-- corner_minutes(table, ball) : 0 table, 1 ball, 2 classes, 3 found, 4 size, 5 place, 6 step -/
def e_corner_minutes_0 : Ev → Rs D :=
  (pFn (arity 3 f_edge_class) [] (pCons (pV 4) (pCons (pV 5) (pCons (pV 6) pNil))))
def p_corner_minutes : Ev → Fl :=
  (pSeq (pDrop (pFn (arity 2 f_check_ball) [] (pCons (pV 0) (pCons (pV 1) pNil))))
  (pSeq (pSet 2 (pLc (pIter (pFn (arity 2 f_parts_of) [] (pCons (pV 0) (pCons (pV 1) pNil)))) (gTp (gsCons (gN 4) (gsCons (gN 5) (gsCons (gN 6) gsNil)))) pYes e_corner_minutes_0 [4, 5, 6]))
  (pSeq (pIfS (pB (pBin (fIn2 false) (pC .non) (pV 2)))
    (pRet (pC .non))
    pNext)
  (pSeq (pSet 3 (pFn (arity 2 f_agreed) [] (pCons (pBin fIx (pV 2) (pC (.int 0))) (pCons (pBin fIx (pV 2) (pC (.int 1))) pNil))))
  (pSeq (pIfS (pB (pBin fIs (pV 3) (pC .non)))
    (pRet (pC .non))
    pNext)
  (pRet (pTup (pCons (pBin fAdd (pBin fIx (pV 1) (pC (.int 5))) (pBin fIx (pV 3) (pC (.int 0)))) (pCons (pBin fIx (pV 3) (pC (.int 1))) pNil)))))))))
def f_corner_minutes : List D → Rs D := runF 7 p_corner_minutes
/-- is_slanting(ball) : 0 ball -/
def p_is_slanting : Ev → Fl :=
  (pRet (pAndV (pBin fNe (pBin fIx (pV 0) (pC (.int 3))) (pC (.int 0))) (pBin fNe (pBin fIx (pV 0) (pC (.int 4))) (pC (.int 0)))))
def f_is_slanting : List D → Rs D := runF 1 p_is_slanting
/-- goes_back(table, ball) : 0 table, 1 ball -/
def p_goes_back : Ev → Fl :=
  (pSeq (pDrop (pFn (arity 2 f_check_ball) [] (pCons (pV 0) (pCons (pV 1) pNil))))
  (pRet (pOrV (pNotV (pFn (arity 1 f_is_slanting) [] (pCons (pV 1) pNil))) (pBin fIsNot (pFn (arity 2 f_corner_minutes) [] (pCons (pV 0) (pCons (pV 1) pNil))) (pC .non)))))
def f_goes_back : List D → Rs D := runF 2 p_goes_back
/-- point_count(table, ball) : 0 table, 1 ball, 2 common, 3 wide, 4 high -/
def p_point_count : Ev → Fl :=
  (pSeq (pDrop (pFn (arity 2 f_check_ball) [] (pCons (pV 0) (pCons (pV 1) pNil))))
  (pSeq (pIfS (pNot (pTr (pFn (arity 1 f_is_slanting) [] (pCons (pV 1) pNil))))
    (pRet (pBin fAdd (pC (.int 1)) (pIf (pB (pBin fNe (pBin fIx (pV 1) (pC (.int 3))) (pC (.int 0)))) (pUn (fFld "Table" "width") (pV 0)) (pUn (fFld "Table" "height") (pV 0)))))
    pNext)
  (pSeq (pSet 2 (pCall fGcd (pCons (pUn (fFld "Table" "width") (pV 0)) (pCons (pUn (fFld "Table" "height") (pV 0)) pNil))))
  (pSeq (pSet 3 (pBin fDiv (pUn (fFld "Table" "width") (pV 0)) (pV 2)))
  (pSeq (pSet 4 (pBin fDiv (pUn (fFld "Table" "height") (pV 0)) (pV 2)))
  (pSeq (pIfS (pB (pBin fIsNot (pFn (arity 2 f_corner_minutes) [] (pCons (pV 0) (pCons (pV 1) pNil))) (pC .non)))
    (pRet (pBin fSub (pBin fAdd (pBin fMul (pBin fMul (pV 2) (pV 3)) (pV 4)) (pC (.int 1))) (pBin fDiv (pBin fMul (pBin fSub (pV 3) (pC (.int 1))) (pBin fSub (pV 4) (pC (.int 1)))) (pC (.int 2)))))
    pNext)
  (pRet (pBin fAdd (pBin fAdd (pBin fSub (pBin fMul (pBin fMul (pBin fMul (pC (.int 2)) (pV 2)) (pV 3)) (pV 4)) (pBin fMul (pBin fMul (pC (.int 2)) (pV 3)) (pV 4))) (pV 3)) (pV 4)))))))))
def f_point_count : List D → Rs D := runF 5 p_point_count
/-- _law_round(_law_width, _law_height, _law_ball_here) : 0 _law_width, 1 _law_height, 2 _law_ball_here, 3 _law_rows, 4 _law_k -/
def l_law_round_0 : Ev → Fl :=
  (pIfS (pB (pBin fEq (pBin fIx (pV 3) (pV 4)) (pBin fIx (pV 3) (pC (.int 0)))))
    (pRet (pSl fSl (pV 3) pNo (pPart (pV 4))))
    pNext)
def p_law_round : Ev → Fl :=
  (pSeq (pSet 3 (pFn (arity 4 f_law_walk) [] (pCons (pV 0) (pCons (pV 1) (pCons (pV 2) (pCons (pBin fAdd (pBin fMul (pBin fMul (pBin fMul (pC (.int 2)) (pV 0)) (pC (.int 2))) (pV 1)) (pC (.int 1))) pNil))))))
  (pSeq (pFor (pRg2 (pCons (pC (.int 1)) (pCons (pCall fLen (pCons (pV 3) pNil)) pNil))) (gN 4) l_law_round_0)
  (pRet (pV 3))))
def f_law_round : List D → Rs D := runF 5 p_law_round
/-- point_classes(size, place, step, goal) : 0 size, 1 place, 2 step, 3 goal, 4 phase, 5 first, 6 second -/
def p_point_classes : Ev → Fl :=
  (pSeq (pIfS (pB (pBin fEq (pV 2) (pC (.int 0))))
    (pRet (pIf (pB (pBin fEq (pV 1) (pV 3))) (pLst (pCons (pTup (pCons (pC (.int 0)) (pCons (pC (.int 1)) pNil))) pNil)) (pLst pNil)))
    pNext)
  (pSeq (pSet 4 (pFn (arity 3 f_phase_of) [] (pCons (pV 0) (pCons (pV 1) (pCons (pV 2) pNil)))))
  (pSeq (pSet 5 (pTup (pCons (pBin fMod (pBin fSub (pV 3) (pV 4)) (pBin fMul (pC (.int 2)) (pV 0))) (pCons (pBin fMul (pC (.int 2)) (pV 0)) pNil))))
  (pSeq (pSet 6 (pTup (pCons (pBin fMod (pBin fSub (pUn fNeg (pV 3)) (pV 4)) (pBin fMul (pC (.int 2)) (pV 0))) (pCons (pBin fMul (pC (.int 2)) (pV 0)) pNil))))
  (pRet (pIf (pB (pBin fEq (pV 5) (pV 6))) (pLst (pCons (pV 5) pNil)) (pLst (pCons (pV 5) (pCons (pV 6) pNil)))))))))
def f_point_classes : List D → Rs D := runF 7 p_point_classes
/-- point_minutes(table, ball, point) : 0 table, 1 ball, 2 point, 3 parts, 4 found, 5 one, 6 other, 7 both -/
def l_point_minutes_0 : Ev → Fl :=
  (pSeq (pSet 7 (pFn (arity 2 f_agreed) [] (pCons (pV 5) (pCons (pV 6) pNil))))
  (pIfS (pB (pBin fIsNot (pV 7) (pC .non)))
    (pApp 4 (pTup (pCons (pBin fAdd (pBin fIx (pV 1) (pC (.int 5))) (pBin fIx (pV 7) (pC (.int 0)))) (pCons (pBin fIx (pV 7) (pC (.int 1))) pNil))))
    pNext))
def l_point_minutes_1 : Ev → Fl :=
  (pFor (pIter (pFn (arity 4 f_point_classes) [] (pCons (pBin fIx (pBin fIx (pV 3) (pC (.int 1))) (pC (.int 0))) (pCons (pBin fIx (pBin fIx (pV 3) (pC (.int 1))) (pC (.int 1))) (pCons (pBin fIx (pBin fIx (pV 3) (pC (.int 1))) (pC (.int 2))) (pCons (pBin fIx (pV 2) (pC (.int 1))) pNil)))))) (gN 6) l_point_minutes_0)
def p_point_minutes : Ev → Fl :=
  (pSeq (pDrop (pFn (arity 2 f_check_ball) [] (pCons (pV 0) (pCons (pV 1) pNil))))
  (pSeq (pDrop (pMeth "Table" "check_point" (arity 2 f_Table_check_point) (pV 0) (pCons (pV 2) pNil)))
  (pSeq (pSet 3 (pFn (arity 2 f_parts_of) [] (pCons (pV 0) (pCons (pV 1) pNil))))
  (pSeq (pSetO 4 (pLst pNil))
  (pSeq (pFor (pIter (pFn (arity 4 f_point_classes) [] (pCons (pBin fIx (pBin fIx (pV 3) (pC (.int 0))) (pC (.int 0))) (pCons (pBin fIx (pBin fIx (pV 3) (pC (.int 0))) (pC (.int 1))) (pCons (pBin fIx (pBin fIx (pV 3) (pC (.int 0))) (pC (.int 2))) (pCons (pBin fIx (pV 2) (pC (.int 0))) pNil)))))) (gN 5) l_point_minutes_1)
  (pFrz 4 (pRet (pCall fSorted (pCons (pV 4) pNil)))))))))
def f_point_minutes : List D → Rs D := runF 8 p_point_minutes
/-- is_passed(table, ball, point) : 0 table, 1 ball, 2 point -/
def p_is_passed : Ev → Fl :=
  (pRet (pBin fGt (pCall fLen (pCons (pFn (arity 3 f_point_minutes) [] (pCons (pV 0) (pCons (pV 1) (pCons (pV 2) pNil)))) pNil)) (pC (.int 0))))
def f_is_passed : List D → Rs D := runF 3 p_is_passed
/-- first_return(table, ball) : 0 table, 1 ball, 2 rows, 3 first, 4 modulus -/
def e_first_return_0 : Ev → Rs D :=
  (pIf (pB (pBin fGt (pV 3) (pBin fIx (pV 1) (pC (.int 5))))) (pV 3) (pBin fAdd (pV 3) (pV 4)))
def p_first_return : Ev → Fl :=
  (pSeq (pDrop (pFn (arity 2 f_check_ball) [] (pCons (pV 0) (pCons (pV 1) pNil))))
  (pSeq (pSet 2 (pFn (arity 3 f_point_minutes) [] (pCons (pV 0) (pCons (pV 1) (pCons (pSl fSl (pV 1) (pPart (pC (.int 1))) (pPart (pC (.int 3)))) pNil)))))
  (pRet (pCall fMin (pCons (pLc (pIter (pV 2)) (gTp (gsCons (gN 3) (gsCons (gN 4) gsNil))) pYes e_first_return_0 [3, 4]) pNil)))))
def f_first_return : List D → Rs D := runF 5 p_first_return
/-- _law_same_instant(_law_actual, _law_expected) : 0 _law_actual, 1 _law_expected -/
def p_law_same_instant : Ev → Fl :=
  (pSeq (pIfS (pB (pBin fIs (pV 1) (pC .non)))
    (pRet (pBin fIs (pV 0) (pC .non)))
    pNext)
  (pRet (pAndV (pFn (arity 1 f_law_is_integer) [] (pCons (pV 0) pNil)) (pBin fEq (pV 0) (pV 1)))))
def f_law_same_instant : List D → Rs D := runF 2 p_law_same_instant
abbrev c_EDGES : D := .tup [.str "left", .str "right", .str "bottom", .str "top"]
/-- count_up_to(first, modulus, until) : 0 first, 1 modulus, 2 until -/
def p_count_up_to : Ev → Fl :=
  (pRet (pIf (pB (pBin fLt (pV 2) (pV 0))) (pC (.int 0)) (pBin fAdd (pBin fDiv (pBin fSub (pV 2) (pV 0)) (pV 1)) (pC (.int 1)))))
def f_count_up_to : List D → Rs D := runF 3 p_count_up_to
/-- _law_part(_law_size, _law_place, _law_step, _law_passed) : 0 _law_size, 1 _law_place, 2 _law_step, 3 _law_passed, 4 _law_total, 5 _law_rounds, 6 _law_rest -/
def p_law_part_v2 : Ev → Fl :=
  (pSeq (pSet 4 (pBin fAdd (pV 1) (pBin fMul (pV 2) (pV 3))))
  (pSeq (pSet 5 (pBin fDiv (pV 4) (pV 0)))
  (pSeq (pSet 6 (pBin fSub (pV 4) (pBin fMul (pV 5) (pV 0))))
  (pSeq (pIfS (pB (pBin fEq (pBin fMod (pCall fInt (pCons (pV 5) pNil)) (pC (.int 2))) (pC (.int 1))))
    (pSet 6 (pBin fSub (pV 0) (pV 6)))
    pNext)
  (pRet (pV 6))))))
def f_law_part_v2 : List D → Rs D := runF 7 p_law_part_v2
/-- _law_where(_law_width, _law_height, _law_ball, _law_minute) : 0 _law_width, 1 _law_height, 2 _law_ball, 3 _law_minute, 4 _law_name, 5 _law_x, 6 _law_y, 7 _law_dx, 8 _law_dy, 9 _law_start -/
def p_law_where_v2 : Ev → Fl :=
  (pSeq (pAsg (gTp (gsCons (gN 4) (gsCons (gN 5) (gsCons (gN 6) (gsCons (gN 7) (gsCons (gN 8) (gsCons (gN 9) gsNil))))))) (pV 2))
  (pRet (pTup (pCons (pFn (arity 4 f_law_part_v2) [] (pCons (pV 0) (pCons (pV 5) (pCons (pV 7) (pCons (pBin fSub (pV 3) (pV 9)) pNil))))) (pCons (pFn (arity 4 f_law_part_v2) [] (pCons (pV 1) (pCons (pV 6) (pCons (pV 8) (pCons (pBin fSub (pV 3) (pV 9)) pNil))))) pNil)))))
def f_law_where_v2 : List D → Rs D := runF 10 p_law_where_v2
/-- _law_divisor(_law_one, _law_other) : 0 _law_one, 1 _law_other, 2 _law_turn -/
def l_law_divisor_0 : Ev → Fl :=
  (pSeq (pIfS (pB (pBin fEq (pV 1) (pC (.int 0))))
    (pRet (pV 0))
    pNext)
  (pPar 0 1 (pCons (pV 1) (pCons (pBin fMod (pCall fInt (pCons (pV 0) pNil)) (pV 1)) pNil))))
def p_law_divisor : Ev → Fl :=
  (pSeq (pFor (pRg1 (pCons (pC (.int 400)) pNil)) (gN 2) l_law_divisor_0)
  (pRet (pV 0)))
def f_law_divisor : List D → Rs D := runF 3 p_law_divisor
/-- inverse(number, modulus) : 0 number, 1 modulus, 2 left, 3 right, 4 factor, 5 following, 6 quotient -/
def w_inverse_v2_0 : Ev → Fl :=
  (pSeq (pSet 6 (pBin fDiv (pV 2) (pV 3)))
  (pSeq (pPar 2 3 (pCons (pV 3) (pCons (pBin fSub (pV 2) (pBin fMul (pV 6) (pV 3))) pNil)))
  (pPar 4 5 (pCons (pV 5) (pCons (pBin fSub (pV 4) (pBin fMul (pV 6) (pV 5))) pNil)))))
def wc_inverse_v2_0 : Ev → Rs Bool :=
  (pB (pBin fGt (pV 3) (pC (.int 0))))
def p_inverse_v2 : Ev → Fl :=
  (pSeq (pPar 2 3 (pCons (pV 0) (pCons (pV 1) pNil)))
  (pSeq (pAsg (gTp (gsCons (gN 4) (gsCons (gN 5) gsNil))) (pTup (pCons (pC (.int 1)) (pCons (pC (.int 0)) pNil))))
  (pSeq (pWhile (fun ρ => fuelI 3 ρ) wc_inverse_v2_0 w_inverse_v2_0)
  (pRet (pBin fMod (pV 4) (pV 1))))))
def f_inverse_v2 : List D → Rs D := runF 7 p_inverse_v2
/-- chinese(one, other) : 0 one, 1 other, 2 first, 3 size, 4 second, 5 width, 6 divisor, 7 step, 8 modulus -/
def p_chinese : Ev → Fl :=
  (pSeq (pAsg (gTp (gsCons (gN 2) (gsCons (gN 3) gsNil))) (pV 0))
  (pSeq (pAsg (gTp (gsCons (gN 4) (gsCons (gN 5) gsNil))) (pV 1))
  (pSeq (pSet 6 (pCall fGcd (pCons (pV 3) (pCons (pV 5) pNil))))
  (pSeq (pIfS (pB (pBin fNe (pBin fMod (pBin fSub (pV 4) (pV 2)) (pV 6)) (pC (.int 0))))
    (pRet (pC .non))
    pNext)
  (pSeq (pSet 7 (pBin fMul (pBin fDiv (pBin fSub (pV 4) (pV 2)) (pV 6)) (pFn (arity 2 f_inverse_v2) [] (pCons (pBin fDiv (pV 3) (pV 6)) (pCons (pBin fDiv (pV 5) (pV 6)) pNil)))))
  (pSeq (pSet 8 (pBin fMul (pBin fDiv (pV 3) (pV 6)) (pV 5)))
  (pRet (pTup (pCons (pBin fMod (pBin fAdd (pV 2) (pBin fMul (pV 3) (pBin fMod (pV 7) (pBin fDiv (pV 5) (pV 6))))) (pV 8)) (pCons (pV 8) pNil))))))))))
def f_chinese : List D → Rs D := runF 9 p_chinese
/-- _law_pick(_law_numbers_here, _law_at, _law_most) : 0 _law_numbers_here, 1 _law_at, 2 _law_most -/
def p_law_pick : Ev → Fl :=
  (pRet (pBin fMod (pCall fInt (pCons (pBin fIx (pV 0) (pV 1)) pNil)) (pV 2)))
def f_law_pick : List D → Rs D := runF 3 p_law_pick
abbrev c_WHOLE : D := .kl [.tup [.int 0, .int 1]]
/-- solved(factor, right, modulus) : 0 factor, 1 right, 2 modulus -/
def p_solved : Ev → Fl :=
  (pSeq (pIfS (pB (pBin fLt (pV 0) (pC (.int 0))))
    (pSeq (pSet 0 (pUn fNeg (pV 0)))
  (pSet 1 (pUn fNeg (pV 1))))
    pNext)
  (pSeq (pIfS (pB (pBin fEq (pV 0) (pC (.int 0))))
    (pRet (pIf (pB (pBin fEq (pBin fMod (pV 1) (pV 2)) (pC (.int 0)))) (pCall fList (pCons (pC c_WHOLE) pNil)) (pLst pNil)))
    pNext)
  (pSeq (pIfS (pB (pBin fEq (pV 0) (pC (.int 1))))
    (pRet (pLst (pCons (pTup (pCons (pBin fMod (pV 1) (pV 2)) (pCons (pV 2) pNil))) pNil)))
    pNext)
  (pSeq (pIfS (pB (pBin fEq (pBin fMod (pV 2) (pC (.int 2))) (pC (.int 1))))
    (pRet (pLst (pCons (pTup (pCons (pBin fMod (pBin fMul (pV 1) (pBin fDiv (pBin fAdd (pV 2) (pC (.int 1))) (pC (.int 2)))) (pV 2)) (pCons (pV 2) pNil))) pNil)))
    pNext)
  (pSeq (pIfS (pB (pBin fEq (pBin fMod (pV 1) (pC (.int 2))) (pC (.int 1))))
    (pRet (pLst pNil))
    pNext)
  (pRet (pLst (pCons (pTup (pCons (pBin fMod (pBin fDiv (pV 1) (pC (.int 2))) (pBin fDiv (pV 2) (pC (.int 2)))) (pCons (pBin fDiv (pV 2) (pC (.int 2))) pNil))) pNil))))))))
def f_solved : List D → Rs D := runF 3 p_solved
/-- _law_classes_good(_law_classes, _law_most) : 0 _law_classes, 1 _law_most, 2 _law_row_here, 3 _law_remainder, 4 _law_modulus -/
def l_law_classes_good_0 : Ev → Fl :=
  (pIfS (pOr (pNot (pTr (pIsi "tuple" (pV 2)))) (pOr (pB (pBin fNe (pCall fLen (pCons (pV 2) pNil)) (pC (.int 2)))) (pOr (pTr (pIsi "bool" (pBin fIx (pV 2) (pC (.int 0))))) (pNot (pB (pChain fLe fLt (pC (.int 0)) (pBin fIx (pV 2) (pC (.int 0))) (pBin fIx (pV 2) (pC (.int 1)))))))))
    (pRet (pC (.bl false)))
    pNext)
def e_law_classes_good_0 : Ev → Rs D :=
  (pTup (pCons (pV 4) (pCons (pV 3) pNil)))
def e_law_classes_good_1 : Ev → Rs D :=
  (pTup (pCons (pBin fIx (pV 2) (pC (.int 1))) (pCons (pBin fIx (pV 2) (pC (.int 0))) pNil)))
def p_law_classes_good : Ev → Fl :=
  (pSeq (pIfS (pOr (pNot (pTr (pIsi "list" (pV 0)))) (pB (pBin fGt (pCall fLen (pCons (pV 0) pNil)) (pV 1))))
    (pRet (pC (.bl false)))
    pNext)
  (pSeq (pFor (pIter (pV 0)) (gN 2) l_law_classes_good_0)
  (pRet (pBin fEq (pV 0) (pLc (pIter (pCall fSorted (pCons (pLc (pIter (pV 0)) (gTp (gsCons (gN 3) (gsCons (gN 4) gsNil))) pYes e_law_classes_good_0 [3, 4]) pNil))) (gN 2) pYes e_law_classes_good_1 [2])))))
def f_law_classes_good : List D → Rs D := runF 5 p_law_classes_good
/-- _law_hits(_law_classes, _law_number) : 0 _law_classes, 1 _law_number, 2 _law_row_here -/
def e_law_hits_0 : Ev → Rs D :=
  (pV 2)
def t_law_hits_0 : Ev → Rs Bool :=
  (pB (pBin fEq (pBin fMod (pCall fInt (pCons (pBin fSub (pV 1) (pBin fIx (pV 2) (pC (.int 0)))) pNil)) (pBin fIx (pV 2) (pC (.int 1)))) (pC (.int 0))))
def p_law_hits : Ev → Fl :=
  (pRet (pCall fLen (pCons (pLc (pIter (pV 0)) (gN 2) t_law_hits_0 e_law_hits_0 [2]) pNil)))
def f_law_hits : List D → Rs D := runF 3 p_law_hits
/-- united(one, other) : 0 one, 1 other, 2 found, 3 remainder, 4 modulus -/
def l_united_0 : Ev → Fl :=
  (pDPutT 2 (pC (.bl true)) (pCons (pV 4) (pCons (pV 3) pNil)))
def e_united_0 : Ev → Rs D :=
  (pTup (pCons (pV 3) (pCons (pV 4) pNil)))
def p_united : Ev → Fl :=
  (pSeq (pIfS (pOr (pB (pBin (fIn2 false) (pBin fIx (pC c_WHOLE) (pC (.int 0))) (pV 0))) (pB (pBin (fIn2 false) (pBin fIx (pC c_WHOLE) (pC (.int 0))) (pV 1))))
    (pRet (pCall fList (pCons (pC c_WHOLE) pNil)))
    pNext)
  (pSeq (pSetO 2 (pC (.dt [] [])))
  (pSeq (pFor (pIter (pBin fAdd (pV 0) (pV 1))) (gTp (gsCons (gN 3) (gsCons (gN 4) gsNil))) l_united_0)
  (pFrz 2 (pRet (pLc (pIter (pCall fSorted (pCons (pCall fListDT (pCons (pV 2) pNil)) pNil))) (gTp (gsCons (gN 4) (gsCons (gN 3) gsNil))) pYes e_united_0 [4, 3]))))))
def f_united : List D → Rs D := runF 5 p_united
/-- point_classes(size, at, step, goal) : 0 size, 1 at, 2 step, 3 goal -/
def p_point_classes_v2 : Ev → Fl :=
  (pRet (pFn (arity 2 f_united) [] (pCons (pFn (arity 3 f_solved) [] (pCons (pV 2) (pCons (pBin fSub (pV 3) (pV 1)) (pCons (pBin fMul (pC (.int 2)) (pV 0)) pNil)))) (pCons (pFn (arity 3 f_solved) [] (pCons (pV 2) (pCons (pBin fSub (pUn fNeg (pV 3)) (pV 1)) (pCons (pBin fMul (pC (.int 2)) (pV 0)) pNil)))) pNil))))
def f_point_classes_v2 : List D → Rs D := runF 4 p_point_classes_v2
/-- meeting_classes(size, at, step, other, move) : 0 size, 1 at, 2 step, 3 other, 4 move -/
def p_meeting_classes : Ev → Fl :=
  (pRet (pFn (arity 2 f_united) [] (pCons (pFn (arity 3 f_solved) [] (pCons (pBin fSub (pV 2) (pV 4)) (pCons (pBin fSub (pV 3) (pV 1)) (pCons (pBin fMul (pC (.int 2)) (pV 0)) pNil)))) (pCons (pFn (arity 3 f_solved) [] (pCons (pBin fAdd (pV 2) (pV 4)) (pCons (pBin fSub (pUn fNeg (pV 3)) (pV 1)) (pCons (pBin fMul (pC (.int 2)) (pV 0)) pNil)))) pNil))))
def f_meeting_classes : List D → Rs D := runF 5 p_meeting_classes
abbrev c_MOST_CLASSES : D := .int 64
/-- is_class(one) : 0 one, 1 part -/
def e_is_class_0 : Ev → Rs D :=
  (pIsi "int" (pV 1))
def p_is_class : Ev → Fl :=
  (pSeq (pIfS (pOr (pNot (pTr (pIsiT ["tuple", "list"] (pV 0)))) (pOr (pB (pBin fNe (pCall fLen (pCons (pV 0) pNil)) (pC (.int 2)))) (pNot (pTr (pCall fAll (pCons (pLc (pIter (pV 0)) (gN 1) pYes e_is_class_0 [1]) pNil))))))
    (pRet (pC (.bl false)))
    pNext)
  (pRet (pChain fLe fLt (pC (.int 0)) (pBin fIx (pV 0) (pC (.int 0))) (pBin fIx (pV 0) (pC (.int 1))))))
def f_is_class : List D → Rs D := runF 2 p_is_class
/-- are_apart(one, other) : 0 one, 1 other, 2 divisor -/
def p_are_apart : Ev → Fl :=
  (pSeq (pSet 2 (pCall fGcd (pCons (pBin fIx (pV 0) (pC (.int 1))) (pCons (pBin fIx (pV 1) (pC (.int 1))) pNil))))
  (pRet (pBin fNe (pBin fMod (pBin fIx (pV 0) (pC (.int 0))) (pV 2)) (pBin fMod (pBin fIx (pV 1) (pC (.int 0))) (pV 2)))))
def f_are_apart : List D → Rs D := runF 3 p_are_apart
/-- Times.__init__(self, start, end, classes) : 0 self, 1 start, 2 end, 3 classes, 4 rows, 5 one, 6 at, 7 modulus, 8 remainder, 9 other -/
def l_Times_init_0 : Ev → Fl :=
  (pSeq (pIfS (pNot (pTr (pFn (arity 1 f_is_class) [] (pCons (pV 5) pNil))))
    (fun ρ => Fl.err "InvalidQuestion" none ρ)
    pNext)
  (pApp 4 (pTup (pCons (pBin fIx (pV 5) (pC (.int 1))) (pCons (pBin fIx (pV 5) (pC (.int 0))) pNil)))))
def e_Times_init_0 : Ev → Rs D :=
  (pTup (pCons (pV 8) (pCons (pV 7) pNil)))
def e_Times_init_1 : Ev → Rs D :=
  (pFn (arity 2 f_are_apart) [] (pCons (pV 5) (pCons (pV 9) pNil)))
def l_Times_init_1 : Ev → Fl :=
  (pIfS (pNot (pTr (pCall fAll (pCons (pLc (pIter (pSl fSl (pUn (fFld "Times" "classes") (pV 0)) (pPart (pBin fAdd (pV 6) (pC (.int 1)))) pNo)) (gN 9) pYes e_Times_init_1 [9]) pNil))))
    (fun ρ => Fl.err "InvalidQuestion" none ρ)
    pNext)
def r_Times_init_0 : Ev → Fl :=
  (pFor (pEnum2 (pCons (pUn (fFld "Times" "classes") (pV 0)) pNil)) (gTp (gsCons (gN 6) (gsCons (gN 5) gsNil))) l_Times_init_1)
def p_Times_init : PI0 :=
  (qStm (pIfS (pOr (pB (pBin fLt (pV 1) (pC (.int 0)))) (pOr (pAnd (pB (pBin fIsNot (pV 2) (pC .non))) (pB (pBin fLt (pV 2) (pC (.int 0))))) (pB (pBin fGt (pCall fLen (pCons (pV 3) pNil)) (pC c_MOST_CLASSES)))))
    (fun ρ => Fl.err "InvalidQuestion" none ρ)
    pNext)
  (qStm (pSetO 4 (pLst pNil))
  (qStm (pFor (pIter (pV 3)) (gN 5) l_Times_init_0)
  (qFld "Times" "start" (pV 1)
  (qFld "Times" "end" (pV 2)
  (qFld "Times" "classes" (pLc (pIter (pCall fSorted (pCons (pVo 4) pNil))) (gTp (gsCons (gN 7) (gsCons (gN 8) gsNil))) pYes e_Times_init_0 [7, 8])
  (qRest r_Times_init_0)))))))
def f_Times_init : Addr → List D → Rs D := runI 10 "Times" p_Times_init
/-- Times.is_within(self, minute) : 0 self, 1 minute -/
def p_Times_is_within : Ev → Fl :=
  (pRet (pAndV (pBin fGe (pV 1) (pUn (fFld "Times" "start") (pV 0))) (pOrV (pBin fIs (pUn (fFld "Times" "end") (pV 0)) (pC .non)) (pBin fLe (pV 1) (pUn (fFld "Times" "end") (pV 0))))))
def f_Times_is_within : List D → Rs D := runF 2 p_Times_is_within
/-- Times.holds(self, minute) : 0 self, 1 minute, 2 remainder, 3 modulus -/
def e_Times_holds_0 : Ev → Rs D :=
  (pBin fEq (pBin fMod (pV 1) (pV 3)) (pV 2))
def p_Times_holds : Ev → Fl :=
  (pSeq (pIfS (pNot (pTr (pMeth "Times" "is_within" (arity 2 f_Times_is_within) (pV 0) (pCons (pV 1) pNil))))
    (pRet (pC (.bl false)))
    pNext)
  (pRet (pCall fAny (pCons (pLc (pIter (pUn (fFld "Times" "classes") (pV 0))) (gTp (gsCons (gN 2) (gsCons (gN 3) gsNil))) pYes e_Times_holds_0 [2, 3]) pNil))))
def f_Times_holds : List D → Rs D := runF 4 p_Times_holds
/-- Times.next_from(self, minute) : 0 self, 1 minute, 2 first, 3 found, 4 remainder, 5 modulus -/
def e_Times_next_from_0 : Ev → Rs D :=
  (pBin fAdd (pV 2) (pBin fMod (pBin fSub (pV 4) (pV 2)) (pV 5)))
def p_Times_next_from : Ev → Fl :=
  (pSeq (pSet 2 (pCall fMax2 (pCons (pV 1) (pCons (pUn (fFld "Times" "start") (pV 0)) pNil))))
  (pSeq (pSet 3 (pLc (pIter (pUn (fFld "Times" "classes") (pV 0))) (gTp (gsCons (gN 4) (gsCons (gN 5) gsNil))) pYes e_Times_next_from_0 [4, 5]))
  (pSeq (pIfS (pOr (pNot (pTr (pV 3))) (pNot (pTr (pMeth "Times" "is_within" (arity 2 f_Times_is_within) (pV 0) (pCons (pCall fMin (pCons (pV 3) pNil)) pNil)))))
    (pRet (pC .non))
    pNext)
  (pRet (pCall fMin (pCons (pV 3) pNil))))))
def f_Times_next_from : List D → Rs D := runF 6 p_Times_next_from
/-- Times.number_to(self, minute) : 0 self, 1 minute, 2 last, 3 total, 4 remainder, 5 modulus, 6 first -/
def l_Times_number_to_0 : Ev → Fl :=
  (pSeq (pSet 6 (pBin fAdd (pUn (fFld "Times" "start") (pV 0)) (pBin fMod (pBin fSub (pV 4) (pUn (fFld "Times" "start") (pV 0))) (pV 5))))
  (pIfS (pB (pBin fLe (pV 6) (pV 2)))
    (pAug fIAdd 3 (pBin fAdd (pBin fDiv (pBin fSub (pV 2) (pV 6)) (pV 5)) (pC (.int 1))))
    pNext))
def p_Times_number_to : Ev → Fl :=
  (pSeq (pSet 2 (pIf (pB (pBin fIs (pUn (fFld "Times" "end") (pV 0)) (pC .non))) (pV 1) (pCall fMin2 (pCons (pV 1) (pCons (pUn (fFld "Times" "end") (pV 0)) pNil)))))
  (pSeq (pSet 3 (pC (.int 0)))
  (pSeq (pFor (pIter (pUn (fFld "Times" "classes") (pV 0))) (gTp (gsCons (gN 4) (gsCons (gN 5) gsNil))) l_Times_number_to_0)
  (pRet (pV 3)))))
def f_Times_number_to : List D → Rs D := runF 7 p_Times_number_to
/-- Times.is_empty(self) : 0 self -/
def p_Times_is_empty : Ev → Fl :=
  (pRet (pBin fIs (pMeth "Times" "next_from" (arity 2 f_Times_next_from) (pV 0) (pCons (pUn (fFld "Times" "start") (pV 0)) pNil)) (pC .non)))
def f_Times_is_empty : List D → Rs D := runF 1 p_Times_is_empty
/-- _law_are_apart(_law_one, _law_other) : 0 _law_one, 1 _law_other, 2 _law_number -/
def l_law_are_apart_0 : Ev → Fl :=
  (pIfS (pAnd (pB (pBin fEq (pBin fMod (pCall fInt (pCons (pV 2) pNil)) (pBin fIx (pV 0) (pC (.int 1)))) (pBin fIx (pV 0) (pC (.int 0))))) (pB (pBin fEq (pBin fMod (pCall fInt (pCons (pV 2) pNil)) (pBin fIx (pV 1) (pC (.int 1)))) (pBin fIx (pV 1) (pC (.int 0))))))
    (pRet (pC (.bl false)))
    pNext)
def p_law_are_apart : Ev → Fl :=
  (pSeq (pFor (pRg1 (pCons (pBin fMul (pBin fIx (pV 0) (pC (.int 1))) (pBin fIx (pV 1) (pC (.int 1)))) pNil)) (gN 2) l_law_are_apart_0)
  (pRet (pC (.bl true))))
def f_law_are_apart : List D → Rs D := runF 3 p_law_are_apart
/-- _law_drawn_times(_law_numbers_here, _law_at) : 0 _law_numbers_here, 1 _law_at, 2 _law_rows, 3 _law_k, 4 _law_modulus, 5 _law_row_here, 6 _law_start, 7 _law_end, 8 _law_other -/
def e_law_drawn_times_0 : Ev → Rs D :=
  (pFn (arity 2 f_law_are_apart) [] (pCons (pV 5) (pCons (pV 8) pNil)))
def l_law_drawn_times_0 : Ev → Fl :=
  (pSeq (pSet 4 (pBin fAdd (pC (.int 1)) (pFn (arity 3 f_law_pick) [] (pCons (pV 0) (pCons (pBin fAdd (pBin fAdd (pV 1) (pC (.int 1))) (pBin fMul (pC (.int 2)) (pV 3))) (pCons (pC (.int 12)) pNil))))))
  (pSeq (pSet 5 (pTup (pCons (pFn (arity 3 f_law_pick) [] (pCons (pV 0) (pCons (pBin fAdd (pBin fAdd (pV 1) (pC (.int 2))) (pBin fMul (pC (.int 2)) (pV 3))) (pCons (pV 4) pNil)))) (pCons (pV 4) pNil))))
  (pIfS (pTr (pCall fAll (pCons (pLc (pIter (pV 2)) (gN 8) pYes e_law_drawn_times_0 [8]) pNil)))
    (pApp 2 (pV 5))
    pNext)))
def p_law_drawn_times : Ev → Fl :=
  (pSeq (pSetO 2 (pLst pNil))
  (pSeq (pFor (pRg1 (pCons (pFn (arity 3 f_law_pick) [] (pCons (pV 0) (pCons (pV 1) (pCons (pC (.int 5)) pNil)))) pNil)) (gN 3) l_law_drawn_times_0)
  (pSeq (pSet 6 (pFn (arity 3 f_law_pick) [] (pCons (pV 0) (pCons (pBin fAdd (pV 1) (pC (.int 11))) (pCons (pC (.int 20)) pNil)))))
  (pSeq (pSet 7 (pC .non))
  (pSeq (pIfS (pB (pBin fEq (pFn (arity 3 f_law_pick) [] (pCons (pV 0) (pCons (pBin fAdd (pV 1) (pC (.int 12))) (pCons (pC (.int 2)) pNil)))) (pC (.int 1))))
    (pSet 7 (pFn (arity 3 f_law_pick) [] (pCons (pV 0) (pCons (pBin fAdd (pV 1) (pC (.int 13))) (pCons (pC (.int 70)) pNil)))))
    pNext)
  (pFrz 2 (pRet (pTup (pCons (pV 6) (pCons (pV 7) (pCons (pV 2) pNil)))))))))))
def f_law_drawn_times : List D → Rs D := runF 9 p_law_drawn_times
/-- _law_members(_law_times, _law_most) : 0 _law_times, 1 _law_most, 2 _law_found, 3 _law_minute, 4 _law_remainder, 5 _law_modulus -/
def e_law_members_0 : Ev → Rs D :=
  (pBin fEq (pBin fMod (pCall fInt (pCons (pV 3) pNil)) (pV 5)) (pV 4))
def l_law_members_0 : Ev → Fl :=
  (pIfS (pAnd (pB (pBin fGe (pV 3) (pBin fIx (pV 0) (pC (.int 0))))) (pOr (pB (pBin fIs (pBin fIx (pV 0) (pC (.int 1))) (pC .non))) (pB (pBin fLe (pV 3) (pBin fIx (pV 0) (pC (.int 1)))))))
    (pIfS (pTr (pCall fAny (pCons (pLc (pIter (pBin fIx (pV 0) (pC (.int 2)))) (gTp (gsCons (gN 4) (gsCons (gN 5) gsNil))) pYes e_law_members_0 [4, 5]) pNil)))
    (pApp 2 (pV 3))
    pNext)
    pNext)
def p_law_members : Ev → Fl :=
  (pSeq (pSetO 2 (pLst pNil))
  (pSeq (pFor (pRg1 (pCons (pBin fAdd (pV 1) (pC (.int 1))) pNil)) (gN 3) l_law_members_0)
  (pFrz 2 (pRet (pV 2)))))
def f_law_members : List D → Rs D := runF 6 p_law_members
/-- crossed(one, other) : 0 one, 1 other, 2 found, 3 first, 4 second, 5 common, 6 modulus, 7 remainder -/
def l_crossed_0 : Ev → Fl :=
  (pSeq (pSet 5 (pFn (arity 2 f_chinese) [] (pCons (pV 3) (pCons (pV 4) pNil))))
  (pIfS (pB (pBin fIsNot (pV 5) (pC .non)))
    (pApp 2 (pTup (pCons (pBin fIx (pV 5) (pC (.int 1))) (pCons (pBin fIx (pV 5) (pC (.int 0))) pNil))))
    pNext))
def l_crossed_1 : Ev → Fl :=
  (pFor (pIter (pV 1)) (gN 4) l_crossed_0)
def e_crossed_0 : Ev → Rs D :=
  (pTup (pCons (pV 7) (pCons (pV 6) pNil)))
def p_crossed : Ev → Fl :=
  (pSeq (pSetO 2 (pLst pNil))
  (pSeq (pFor (pIter (pV 0)) (gN 3) l_crossed_1)
  (pFrz 2 (pRet (pLc (pIter (pCall fSorted (pCons (pV 2) pNil))) (gTp (gsCons (gN 6) (gsCons (gN 7) gsNil))) pYes e_crossed_0 [6, 7])))))
def f_crossed : List D → Rs D := runF 8 p_crossed
/-- earlier_end(one, other) : 0 one, 1 other -/
def p_earlier_end : Ev → Fl :=
  (pSeq (pIfS (pOr (pB (pBin fIs (pV 0) (pC .non))) (pB (pBin fIs (pV 1) (pC .non))))
    (pRet (pIf (pB (pBin fIs (pV 0) (pC .non))) (pV 1) (pV 0)))
    pNext)
  (pRet (pCall fMin2 (pCons (pV 0) (pCons (pV 1) pNil)))))
def f_earlier_end : List D → Rs D := runF 2 p_earlier_end
/-- both(one, other) : 0 one, 1 other, 2 end -/
def p_both : Ev → Fl :=
  (pSeq (pSet 2 (pFn (arity 2 f_earlier_end) [] (pCons (pUn (fFld "Times" "end") (pV 0)) (pCons (pUn (fFld "Times" "end") (pV 1)) pNil))))
  (pRet (pFn (arity 3 (anyX f_Times_init)) [] (pCons (pCall fMax2 (pCons (pUn (fFld "Times" "start") (pV 0)) (pCons (pUn (fFld "Times" "start") (pV 1)) pNil))) (pCons (pV 2) (pCons (pFn (arity 2 f_crossed) [] (pCons (pUn (fFld "Times" "classes") (pV 0)) (pCons (pUn (fFld "Times" "classes") (pV 1)) pNil))) pNil))))))
def f_both : List D → Rs D := runF 3 p_both
/-- at_point(table, ball, point) : 0 table, 1 ball, 2 point, 3 rows, 4 place, 5 size, 6 first -/
def l_at_point_0 : Ev → Fl :=
  (pSeq (pSet 6 (pBin fSub (pBin fIx (pV 1) (pV 4)) (pBin fMul (pBin fIx (pV 1) (pBin fAdd (pV 4) (pC (.int 2)))) (pBin fIx (pV 1) (pC (.int 5))))))
  (pApp 3 (pFn (arity 4 f_point_classes_v2) [] (pCons (pV 5) (pCons (pV 6) (pCons (pBin fIx (pV 1) (pBin fAdd (pV 4) (pC (.int 2)))) (pCons (pBin fIx (pV 2) (pBin fSub (pV 4) (pC (.int 1)))) pNil)))))))
def p_at_point : Ev → Fl :=
  (pSeq (pDrop (pFn (arity 2 f_check_ball) [] (pCons (pV 0) (pCons (pV 1) pNil))))
  (pSeq (pDrop (pMeth "Table" "check_point" (arity 2 f_Table_check_point) (pV 0) (pCons (pV 2) pNil)))
  (pSeq (pSetO 3 (pLst pNil))
  (pSeq (pFor (pIter (pTup (pCons (pTup (pCons (pC (.int 1)) (pCons (pUn (fFld "Table" "width") (pV 0)) pNil))) (pCons (pTup (pCons (pC (.int 2)) (pCons (pUn (fFld "Table" "height") (pV 0)) pNil))) pNil)))) (gTp (gsCons (gN 4) (gsCons (gN 5) gsNil))) l_at_point_0)
  (pFrz 3 (pRet (pFn (arity 3 (anyX f_Times_init)) [] (pCons (pBin fIx (pV 1) (pC (.int 5))) (pCons (pC .non) (pCons (pFn (arity 2 f_crossed) [] (pCons (pBin fIx (pV 3) (pC (.int 0))) (pCons (pBin fIx (pV 3) (pC (.int 1))) pNil))) pNil))))))))))
def f_at_point : List D → Rs D := runF 7 p_at_point
/-- _law_table(_law_numbers_here, _law_at) : 0 _law_numbers_here, 1 _law_at, 2 _law_width, 3 _law_height, 4 _law_pockets, 5 _law_k, 6 _law_pocket -/
def l_law_table_0 : Ev → Fl :=
  (pSeq (pSet 6 (pTup (pCons (pBin fMod (pCall fInt (pCons (pBin fIx (pV 0) (pBin fAdd (pBin fAdd (pV 1) (pC (.int 3))) (pV 5))) pNil)) (pBin fAdd (pV 2) (pC (.int 1)))) (pCons (pBin fMod (pBin fDiv (pCall fInt (pCons (pBin fIx (pV 0) (pBin fAdd (pBin fAdd (pV 1) (pC (.int 3))) (pV 5))) pNil)) (pC (.int 7))) (pBin fAdd (pV 3) (pC (.int 1)))) pNil))))
  (pIfS (pB (pBin (fIn2 true) (pV 6) (pVo 4)))
    (pApp 4 (pV 6))
    pNext))
def p_law_table : Ev → Fl :=
  (pSeq (pSet 2 (pBin fAdd (pC (.int 1)) (pBin fMod (pCall fInt (pCons (pBin fIx (pV 0) (pV 1)) pNil)) (pC (.int 6)))))
  (pSeq (pSet 3 (pBin fAdd (pC (.int 1)) (pBin fMod (pCall fInt (pCons (pBin fIx (pV 0) (pBin fAdd (pV 1) (pC (.int 1)))) pNil)) (pC (.int 6)))))
  (pSeq (pSetO 4 (pLst pNil))
  (pSeq (pFor (pRg1 (pCons (pBin fMod (pCall fInt (pCons (pBin fIx (pV 0) (pBin fAdd (pV 1) (pC (.int 2)))) pNil)) (pC (.int 4))) pNil)) (gN 5) l_law_table_0)
  (pFrz 4 (pRet (pTup (pCons (pV 2) (pCons (pV 3) (pCons (pCall fTuple (pCons (pV 4) pNil)) pNil))))))))))
def f_law_table : List D → Rs D := runF 7 p_law_table
/-- _law_ball(_law_numbers_here, _law_at, _law_name, _law_width, _law_height) : 0 _law_numbers_here, 1 _law_at, 2 _law_name, 3 _law_width, 4 _law_height, 5 _law_way, 6 _law_x, 7 _law_y -/
def p_law_ball_v2 : Ev → Fl :=
  (pSeq (pSet 5 (pBin fIx (pTup (pCons (pTup (pCons (pC (.int 1)) (pCons (pC (.int 1)) pNil))) (pCons (pTup (pCons (pC (.int 1)) (pCons (pUn fNeg (pC (.int 1))) pNil))) (pCons (pTup (pCons (pUn fNeg (pC (.int 1))) (pCons (pC (.int 1)) pNil))) (pCons (pTup (pCons (pUn fNeg (pC (.int 1))) (pCons (pUn fNeg (pC (.int 1))) pNil))) (pCons (pTup (pCons (pC (.int 1)) (pCons (pC (.int 0)) pNil))) (pCons (pTup (pCons (pUn fNeg (pC (.int 1))) (pCons (pC (.int 0)) pNil))) (pCons (pTup (pCons (pC (.int 0)) (pCons (pC (.int 1)) pNil))) (pCons (pTup (pCons (pC (.int 0)) (pCons (pUn fNeg (pC (.int 1))) pNil))) (pCons (pTup (pCons (pC (.int 1)) (pCons (pC (.int 1)) pNil))) (pCons (pTup (pCons (pUn fNeg (pC (.int 1))) (pCons (pC (.int 1)) pNil))) pNil))))))))))) (pBin fMod (pCall fInt (pCons (pBin fIx (pV 0) (pV 1)) pNil)) (pC (.int 10)))))
  (pSeq (pSet 6 (pBin fMod (pCall fInt (pCons (pBin fIx (pV 0) (pBin fAdd (pV 1) (pC (.int 1)))) pNil)) (pBin fAdd (pV 3) (pC (.int 1)))))
  (pSeq (pSet 7 (pBin fMod (pCall fInt (pCons (pBin fIx (pV 0) (pBin fAdd (pV 1) (pC (.int 2)))) pNil)) (pBin fAdd (pV 4) (pC (.int 1)))))
  (pRet (pTup (pCons (pV 2) (pCons (pV 6) (pCons (pV 7) (pCons (pBin fIx (pV 5) (pC (.int 0))) (pCons (pBin fIx (pV 5) (pC (.int 1))) (pCons (pBin fMul (pBin fMod (pCall fInt (pCons (pBin fIx (pV 0) (pBin fAdd (pV 1) (pC (.int 3)))) pNil)) (pC (.int 5))) (pBin fMod (pCall fInt (pCons (pBin fIx (pV 0) (pBin fAdd (pV 1) (pC (.int 4)))) pNil)) (pC (.int 2)))) pNil)))))))))))
def f_law_ball_v2 : List D → Rs D := runF 8 p_law_ball_v2
/-- _law_walk(_law_width, _law_height, _law_ball_here, _law_many) : 0 _law_width, 1 _law_height, 2 _law_ball_here, 3 _law_many, 4 _law_name, 5 _law_x, 6 _law_y, 7 _law_dx, 8 _law_dy, 9 _law_minute, 10 _law_rows, 11 _law_turn -/
def l_law_walk_v2_0 : Ev → Fl :=
  (pSeq (pIfS (pOr (pB (pBin fLt (pBin fAdd (pV 5) (pV 7)) (pC (.int 0)))) (pB (pBin fGt (pBin fAdd (pV 5) (pV 7)) (pV 0))))
    (pSet 7 (pUn fNeg (pV 7)))
    pNext)
  (pSeq (pIfS (pOr (pB (pBin fLt (pBin fAdd (pV 6) (pV 8)) (pC (.int 0)))) (pB (pBin fGt (pBin fAdd (pV 6) (pV 8)) (pV 1))))
    (pSet 8 (pUn fNeg (pV 8)))
    pNext)
  (pSeq (pApp 10 (pTup (pCons (pV 5) (pCons (pV 6) (pCons (pV 7) (pCons (pV 8) pNil))))))
  (pSeq (pSet 5 (pBin fAdd (pV 5) (pV 7)))
  (pSet 6 (pBin fAdd (pV 6) (pV 8)))))))
def p_law_walk_v2 : Ev → Fl :=
  (pSeq (pAsg (gTp (gsCons (gN 4) (gsCons (gN 5) (gsCons (gN 6) (gsCons (gN 7) (gsCons (gN 8) (gsCons (gN 9) gsNil))))))) (pV 2))
  (pSeq (pSetO 10 (pLst pNil))
  (pSeq (pFor (pRg1 (pCons (pBin fAdd (pV 3) (pC (.int 1))) pNil)) (gN 11) l_law_walk_v2_0)
  (pFrz 10 (pRet (pV 10))))))
def f_law_walk_v2 : List D → Rs D := runF 12 p_law_walk_v2
/-- part_classes(table, one, other) : 0 table, 1 one, 2 other, 3 found, 4 place, 5 size, 6 first, 7 second -/
def l_part_classes_0 : Ev → Fl :=
  (pSeq (pSet 6 (pBin fSub (pBin fIx (pV 1) (pV 4)) (pBin fMul (pBin fIx (pV 1) (pBin fAdd (pV 4) (pC (.int 2)))) (pBin fIx (pV 1) (pC (.int 5))))))
  (pSeq (pSet 7 (pBin fSub (pBin fIx (pV 2) (pV 4)) (pBin fMul (pBin fIx (pV 2) (pBin fAdd (pV 4) (pC (.int 2)))) (pBin fIx (pV 2) (pC (.int 5))))))
  (pApp 3 (pFn (arity 5 f_meeting_classes) [] (pCons (pV 5) (pCons (pV 6) (pCons (pBin fIx (pV 1) (pBin fAdd (pV 4) (pC (.int 2)))) (pCons (pV 7) (pCons (pBin fIx (pV 2) (pBin fAdd (pV 4) (pC (.int 2)))) pNil)))))))))
def p_part_classes : Ev → Fl :=
  (pSeq (pSetO 3 (pLst pNil))
  (pSeq (pFor (pIter (pTup (pCons (pTup (pCons (pC (.int 1)) (pCons (pUn (fFld "Table" "width") (pV 0)) pNil))) (pCons (pTup (pCons (pC (.int 2)) (pCons (pUn (fFld "Table" "height") (pV 0)) pNil))) pNil)))) (gTp (gsCons (gN 4) (gsCons (gN 5) gsNil))) l_part_classes_0)
  (pFrz 3 (pRet (pTup (pCons (pBin fIx (pV 3) (pC (.int 0))) (pCons (pBin fIx (pV 3) (pC (.int 1))) pNil)))))))
def f_part_classes : List D → Rs D := runF 8 p_part_classes
/-- meetings(table, one, other) : 0 table, 1 one, 2 other, 3 first, 4 second -/
def p_meetings : Ev → Fl :=
  (pSeq (pDrop (pFn (arity 2 f_check_ball) [] (pCons (pV 0) (pCons (pV 1) pNil))))
  (pSeq (pDrop (pFn (arity 2 f_check_ball) [] (pCons (pV 0) (pCons (pV 2) pNil))))
  (pSeq (pAsg (gTp (gsCons (gN 3) (gsCons (gN 4) gsNil))) (pFn (arity 3 f_part_classes) [] (pCons (pV 0) (pCons (pV 1) (pCons (pV 2) pNil)))))
  (pRet (pFn (arity 3 (anyX f_Times_init)) [] (pCons (pCall fMax2 (pCons (pBin fIx (pV 1) (pC (.int 5))) (pCons (pBin fIx (pV 2) (pC (.int 5))) pNil))) (pCons (pC .non) (pCons (pFn (arity 2 f_crossed) [] (pCons (pV 3) (pCons (pV 4) pNil))) pNil))))))))
def f_meetings : List D → Rs D := runF 5 p_meetings
/-- first_meeting(table, one, other, minute) : 0 table, 1 one, 2 other, 3 minute -/
def p_first_meeting : Ev → Fl :=
  (pRet (pMeth "Times" "next_from" (arity 2 f_Times_next_from) (pFn (arity 3 f_meetings) [] (pCons (pV 0) (pCons (pV 1) (pCons (pV 2) pNil)))) (pCons (pV 3) pNil)))
def f_first_meeting : List D → Rs D := runF 4 p_first_meeting
/-- all_meet(table, balls) : 0 table, 1 balls, 2 ball, 3 found -/
def l_all_meet_0 : Ev → Fl :=
  (pDrop (pFn (arity 2 f_check_ball) [] (pCons (pV 0) (pCons (pV 2) pNil))))
def l_all_meet_1 : Ev → Fl :=
  (pSet 3 (pFn (arity 2 f_both) [] (pCons (pV 3) (pCons (pFn (arity 3 f_meetings) [] (pCons (pV 0) (pCons (pBin fIx (pV 1) (pC (.int 0))) (pCons (pV 2) pNil)))) pNil))))
def p_all_meet : Ev → Fl :=
  (pSeq (pFor (pIter (pV 1)) (gN 2) l_all_meet_0)
  (pSeq (pIfS (pNot (pB (pChain fLe fLe (pC (.int 2)) (pCall fLen (pCons (pV 1) pNil)) (pC (.int 3)))))
    (fun ρ => Fl.err "InvalidQuestion" none ρ)
    pNext)
  (pSeq (pSet 3 (pFn (arity 3 f_meetings) [] (pCons (pV 0) (pCons (pBin fIx (pV 1) (pC (.int 0))) (pCons (pBin fIx (pV 1) (pC (.int 1))) pNil)))))
  (pSeq (pFor (pIter (pSl fSl (pV 1) (pPart (pC (.int 2))) pNo)) (gN 2) l_all_meet_1)
  (pRet (pV 3))))))
def f_all_meet : List D → Rs D := runF 4 p_all_meet
/-- never(table, one, other) : 0 table, 1 one, 2 other, 3 first, 4 second, 5 rows, 6 left, 7 right -/
def l_never_0 : Ev → Fl :=
  (pSeq (pIfS (pB (pBin fIsNot (pFn (arity 2 f_chinese) [] (pCons (pV 6) (pCons (pV 7) pNil))) (pC .non)))
    (pRet (pC .non))
    pNext)
  (pApp 5 (pTup (pCons (pC (.str "pair")) (pCons (pBin fIx (pV 6) (pC (.int 0))) (pCons (pBin fIx (pV 6) (pC (.int 1))) (pCons (pBin fIx (pV 7) (pC (.int 0))) (pCons (pBin fIx (pV 7) (pC (.int 1))) (pCons (pCall fGcd (pCons (pBin fIx (pV 6) (pC (.int 1))) (pCons (pBin fIx (pV 7) (pC (.int 1))) pNil))) pNil)))))))))
def l_never_1 : Ev → Fl :=
  (pFor (pIter (pV 4)) (gN 7) l_never_0)
def p_never : Ev → Fl :=
  (pSeq (pDrop (pFn (arity 2 f_check_ball) [] (pCons (pV 0) (pCons (pV 1) pNil))))
  (pSeq (pDrop (pFn (arity 2 f_check_ball) [] (pCons (pV 0) (pCons (pV 2) pNil))))
  (pSeq (pAsg (gTp (gsCons (gN 3) (gsCons (gN 4) gsNil))) (pFn (arity 3 f_part_classes) [] (pCons (pV 0) (pCons (pV 1) (pCons (pV 2) pNil)))))
  (pSeq (pIfS (pNot (pTr (pV 3)))
    (pRet (pLst (pCons (pTup (pCons (pC (.str "x")) pNil)) pNil)))
    pNext)
  (pSeq (pIfS (pNot (pTr (pV 4)))
    (pRet (pLst (pCons (pTup (pCons (pC (.str "y")) pNil)) pNil)))
    pNext)
  (pSeq (pSetO 5 (pLst pNil))
  (pSeq (pFor (pIter (pV 3)) (gN 6) l_never_1)
  (pFrz 5 (pRet (pV 5))))))))))
def f_never : List D → Rs D := runF 8 p_never
/-- shows(row, left, right) : 0 row, 1 left, 2 right, 3 divisor -/
def p_shows : Ev → Fl :=
  (pSeq (pIfS (pOr (pB (pBin fNe (pCall fTuple (pCons (pSl fSl (pV 0) pNo (pPart (pC (.int 5)))) pNil)) (pTup (pCons (pC (.str "pair")) (pCons (pBin fIx (pV 1) (pC (.int 0))) (pCons (pBin fIx (pV 1) (pC (.int 1))) (pCons (pBin fIx (pV 2) (pC (.int 0))) (pCons (pBin fIx (pV 2) (pC (.int 1))) pNil)))))))) (pB (pBin fNe (pCall fLen (pCons (pV 0) pNil)) (pC (.int 6)))))
    (pRet (pC (.bl false)))
    pNext)
  (pSeq (pSet 3 (pBin fIx (pV 0) (pC (.int 5))))
  (pSeq (pIfS (pNot (pTr (pIsi "int" (pV 3))))
    (pRet (pC (.bl false)))
    pNext)
  (pSeq (pIfS (pOr (pB (pBin fLt (pV 3) (pC (.int 1)))) (pOr (pB (pBin fNe (pBin fMod (pBin fIx (pV 1) (pC (.int 1))) (pV 3)) (pC (.int 0)))) (pB (pBin fNe (pBin fMod (pBin fIx (pV 2) (pC (.int 1))) (pV 3)) (pC (.int 0))))))
    (pRet (pC (.bl false)))
    pNext)
  (pRet (pBin fNe (pBin fMod (pBin fIx (pV 1) (pC (.int 0))) (pV 3)) (pBin fMod (pBin fIx (pV 2) (pC (.int 0))) (pV 3))))))))
def f_shows : List D → Rs D := runF 4 p_shows
/-- _law_walk(_law_width, _law_height, _law_ball_here, _law_many) : 0 _law_width, 1 _law_height, 2 _law_ball_here, 3 _law_many, 4 _law_name, 5 _law_x, 6 _law_y, 7 _law_dx, 8 _law_dy, 9 _law_minute, 10 _law_rows_here, 11 _law_turn -/
def l_law_walk_v3_0 : Ev → Fl :=
  (pSeq (pIfS (pOr (pB (pBin fLt (pBin fAdd (pV 5) (pV 7)) (pC (.int 0)))) (pB (pBin fGt (pBin fAdd (pV 5) (pV 7)) (pV 0))))
    (pSet 7 (pUn fNeg (pV 7)))
    pNext)
  (pSeq (pIfS (pOr (pB (pBin fLt (pBin fAdd (pV 6) (pV 8)) (pC (.int 0)))) (pB (pBin fGt (pBin fAdd (pV 6) (pV 8)) (pV 1))))
    (pSet 8 (pUn fNeg (pV 8)))
    pNext)
  (pSeq (pApp 10 (pTup (pCons (pV 5) (pCons (pV 6) (pCons (pV 7) (pCons (pV 8) pNil))))))
  (pSeq (pSet 5 (pBin fAdd (pV 5) (pV 7)))
  (pSet 6 (pBin fAdd (pV 6) (pV 8)))))))
def p_law_walk_v3 : Ev → Fl :=
  (pSeq (pAsg (gTp (gsCons (gN 4) (gsCons (gN 5) (gsCons (gN 6) (gsCons (gN 7) (gsCons (gN 8) (gsCons (gN 9) gsNil))))))) (pV 2))
  (pSeq (pSetO 10 (pLst pNil))
  (pSeq (pFor (pRg1 (pCons (pBin fAdd (pV 3) (pC (.int 1))) pNil)) (gN 11) l_law_walk_v3_0)
  (pFrz 10 (pRet (pV 10))))))
def f_law_walk_v3 : List D → Rs D := runF 12 p_law_walk_v3
abbrev c_MOST_MINUTES : D := .int 10000
/-- watched(table, balls, point, minutes) : 0 table, 1 balls, 2 point, 3 minutes, 4 ball, 5 minute -/
def e_watched_0 : Ev → Rs D :=
  (pBin fLt (pV 5) (pC (.int 0)))
def e_watched_1 : Ev → Rs D :=
  (pFn (arity 3 f_at_point) [] (pCons (pV 0) (pCons (pV 4) (pCons (pV 2) pNil))))
def p_watched : Ev → Fl :=
  (pSeq (pDrop (pFn (arity 2 f_check_balls) [] (pCons (pV 0) (pCons (pV 1) pNil))))
  (pSeq (pDrop (pMeth "Table" "check_point" (arity 2 f_Table_check_point) (pV 0) (pCons (pV 2) pNil)))
  (pSeq (pIfS (pTr (pCall fAny (pCons (pLc (pIter (pV 3)) (gN 5) pYes e_watched_0 [5]) pNil)))
    (fun ρ => Fl.err "InvalidQuestion" none ρ)
    pNext)
  (pRet (pLc (pIter (pV 1)) (gN 4) pYes e_watched_1 [4])))))
def f_watched : List D → Rs D := runF 6 p_watched
/-- meets_while(table, one, other, times) : 0 table, 1 one, 2 other, 3 times -/
def p_meets_while : Ev → Fl :=
  (pRet (pFn (arity 2 f_both) [] (pCons (pFn (arity 3 f_meetings) [] (pCons (pV 0) (pCons (pV 1) (pCons (pV 2) pNil)))) (pCons (pV 3) pNil))))
def f_meets_while : List D → Rs D := runF 4 p_meets_while
/-- _law_fold(_law_size, _law_place_here) : 0 _law_size, 1 _law_place_here, 2 _law_rest -/
def p_law_fold : Ev → Fl :=
  (pSeq (pSet 2 (pBin fMod (pCall fInt (pCons (pV 1) pNil)) (pBin fMul (pC (.int 2)) (pV 0))))
  (pRet (pCall fMin2 (pCons (pV 2) (pCons (pBin fSub (pBin fMul (pC (.int 2)) (pV 0)) (pV 2)) pNil)))))
def f_law_fold : List D → Rs D := runF 3 p_law_fold
/-- _law_place(_law_width, _law_height, _law_ball, _law_minute) : 0 _law_width, 1 _law_height, 2 _law_ball, 3 _law_minute, 4 _law_gone -/
def p_law_place : Ev → Fl :=
  (pSeq (pSet 4 (pBin fSub (pV 3) (pBin fIx (pV 2) (pC (.int 5)))))
  (pRet (pTup (pCons (pFn (arity 2 f_law_fold) [] (pCons (pV 0) (pCons (pBin fAdd (pBin fIx (pV 2) (pC (.int 1))) (pBin fMul (pBin fIx (pV 2) (pC (.int 3))) (pV 4))) pNil))) (pCons (pFn (arity 2 f_law_fold) [] (pCons (pV 1) (pCons (pBin fAdd (pBin fIx (pV 2) (pC (.int 2))) (pBin fMul (pBin fIx (pV 2) (pC (.int 4))) (pV 4))) pNil))) pNil)))))
def f_law_place : List D → Rs D := runF 5 p_law_place
/-- fall_of(table, ball) : 0 table, 1 ball, 2 found, 3 pocket, 4 minute -/
def l_fall_of_0 : Ev → Fl :=
  (pSeq (pSet 4 (pMeth "Times" "next_from" (arity 2 f_Times_next_from) (pFn (arity 3 f_at_point) [] (pCons (pV 0) (pCons (pV 1) (pCons (pV 3) pNil)))) (pCons (pBin fIx (pV 1) (pC (.int 5))) pNil)))
  (pIfS (pAnd (pB (pBin fIsNot (pV 4) (pC .non))) (pOr (pB (pBin fIs (pV 2) (pC .non))) (pB (pBin fLt (pV 4) (pBin fIx (pV 2) (pC (.int 0)))))))
    (pSet 2 (pTup (pCons (pV 4) (pCons (pV 3) pNil))))
    pNext))
def p_fall_of : Ev → Fl :=
  (pSeq (pDrop (pFn (arity 2 f_check_ball) [] (pCons (pV 0) (pCons (pV 1) pNil))))
  (pSeq (pSet 2 (pC .non))
  (pSeq (pFor (pIter (pUn (fFld "Table" "pockets") (pV 0))) (gN 3) l_fall_of_0)
  (pRet (pV 2)))))
def f_fall_of : List D → Rs D := runF 5 p_fall_of
/-- first_fall(table, ball) : 0 table, 1 ball, 2 found -/
def p_first_fall : Ev → Fl :=
  (pSeq (pSet 2 (pFn (arity 2 f_fall_of) [] (pCons (pV 0) (pCons (pV 1) pNil))))
  (pRet (pIf (pB (pBin fIs (pV 2) (pC .non))) (pC .non) (pBin fIx (pV 2) (pC (.int 0))))))
def f_first_fall : List D → Rs D := runF 3 p_first_fall
/-- _law_table(_law_numbers_here, _law_at) : 0 _law_numbers_here, 1 _law_at, 2 _law_width, 3 _law_height, 4 _law_pockets, 5 _law_k, 6 _law_pocket -/
def l_law_table_v2_0 : Ev → Fl :=
  (pSeq (pSet 6 (pTup (pCons (pBin fMod (pCall fInt (pCons (pBin fIx (pV 0) (pBin fAdd (pBin fAdd (pV 1) (pC (.int 3))) (pV 5))) pNil)) (pBin fAdd (pV 2) (pC (.int 1)))) (pCons (pBin fMod (pCall fInt (pCons (pBin fDiv (pBin fIx (pV 0) (pBin fAdd (pBin fAdd (pV 1) (pC (.int 3))) (pV 5))) (pC (.int 7))) pNil)) (pBin fAdd (pV 3) (pC (.int 1)))) pNil))))
  (pIfS (pB (pBin (fIn2 true) (pV 6) (pVo 4)))
    (pApp 4 (pV 6))
    pNext))
def p_law_table_v2 : Ev → Fl :=
  (pSeq (pSet 2 (pBin fAdd (pC (.int 1)) (pBin fMod (pCall fInt (pCons (pBin fIx (pV 0) (pV 1)) pNil)) (pC (.int 6)))))
  (pSeq (pSet 3 (pBin fAdd (pC (.int 1)) (pBin fMod (pCall fInt (pCons (pBin fIx (pV 0) (pBin fAdd (pV 1) (pC (.int 1)))) pNil)) (pC (.int 6)))))
  (pSeq (pSetO 4 (pLst pNil))
  (pSeq (pFor (pRg1 (pCons (pBin fMod (pCall fInt (pCons (pBin fIx (pV 0) (pBin fAdd (pV 1) (pC (.int 2)))) pNil)) (pC (.int 4))) pNil)) (gN 5) l_law_table_v2_0)
  (pFrz 4 (pRet (pTup (pCons (pV 2) (pCons (pV 3) (pCons (pCall fTuple (pCons (pV 4) pNil)) pNil))))))))))
def f_law_table_v2 : List D → Rs D := runF 7 p_law_table_v2
/-- _law_ball(_law_numbers_here, _law_at, _law_name, _law_width, _law_height) : 0 _law_numbers_here, 1 _law_at, 2 _law_name, 3 _law_width, 4 _law_height, 5 _law_ways, 6 _law_way, 7 _law_x, 8 _law_y -/
def p_law_ball_v3 : Ev → Fl :=
  (pSeq (pSet 5 (pTup (pCons (pTup (pCons (pC (.int 1)) (pCons (pC (.int 1)) pNil))) (pCons (pTup (pCons (pC (.int 1)) (pCons (pUn fNeg (pC (.int 1))) pNil))) (pCons (pTup (pCons (pUn fNeg (pC (.int 1))) (pCons (pC (.int 1)) pNil))) (pCons (pTup (pCons (pUn fNeg (pC (.int 1))) (pCons (pUn fNeg (pC (.int 1))) pNil))) (pCons (pTup (pCons (pC (.int 1)) (pCons (pC (.int 0)) pNil))) (pCons (pTup (pCons (pUn fNeg (pC (.int 1))) (pCons (pC (.int 0)) pNil))) (pCons (pTup (pCons (pC (.int 0)) (pCons (pC (.int 1)) pNil))) (pCons (pTup (pCons (pC (.int 0)) (pCons (pUn fNeg (pC (.int 1))) pNil))) (pCons (pTup (pCons (pC (.int 1)) (pCons (pC (.int 1)) pNil))) (pCons (pTup (pCons (pUn fNeg (pC (.int 1))) (pCons (pC (.int 1)) pNil))) pNil))))))))))))
  (pSeq (pSet 6 (pBin fIx (pV 5) (pBin fMod (pCall fInt (pCons (pBin fIx (pV 0) (pV 1)) pNil)) (pC (.int 10)))))
  (pSeq (pSet 7 (pBin fMod (pCall fInt (pCons (pBin fIx (pV 0) (pBin fAdd (pV 1) (pC (.int 1)))) pNil)) (pBin fAdd (pV 3) (pC (.int 1)))))
  (pSeq (pSet 8 (pBin fMod (pCall fInt (pCons (pBin fIx (pV 0) (pBin fAdd (pV 1) (pC (.int 2)))) pNil)) (pBin fAdd (pV 4) (pC (.int 1)))))
  (pRet (pTup (pCons (pV 2) (pCons (pV 7) (pCons (pV 8) (pCons (pBin fIx (pV 6) (pC (.int 0))) (pCons (pBin fIx (pV 6) (pC (.int 1))) (pCons (pBin fMul (pBin fMod (pCall fInt (pCons (pBin fIx (pV 0) (pBin fAdd (pV 1) (pC (.int 3)))) pNil)) (pC (.int 5))) (pBin fMod (pCall fInt (pCons (pBin fIx (pV 0) (pBin fAdd (pV 1) (pC (.int 4)))) pNil)) (pC (.int 2)))) pNil))))))))))))
def f_law_ball_v3 : List D → Rs D := runF 9 p_law_ball_v3
/-- falls(table, balls) : 0 table, 1 balls, 2 rows, 3 number, 4 ball, 5 found, 6 minute, 7 _, 8 name, 9 pocket -/
def l_falls_0 : Ev → Fl :=
  (pSeq (pSet 5 (pFn (arity 2 f_fall_of) [] (pCons (pV 0) (pCons (pV 4) pNil))))
  (pIfS (pB (pBin fIsNot (pV 5) (pC .non)))
    (pApp 2 (pTup (pCons (pBin fIx (pV 5) (pC (.int 0))) (pCons (pV 3) (pCons (pBin fIx (pV 4) (pC (.int 0))) (pCons (pBin fIx (pV 5) (pC (.int 1))) pNil))))))
    pNext))
def e_falls_0 : Ev → Rs D :=
  (pTup (pCons (pV 6) (pCons (pV 8) (pCons (pV 9) pNil))))
def p_falls : Ev → Fl :=
  (pSeq (pDrop (pFn (arity 2 f_check_balls) [] (pCons (pV 0) (pCons (pV 1) pNil))))
  (pSeq (pSetO 2 (pLst pNil))
  (pSeq (pFor (pEnum2 (pCons (pV 1) pNil)) (gTp (gsCons (gN 3) (gsCons (gN 4) gsNil))) l_falls_0)
  (pFrz 2 (pRet (pLc (pIter (pCall fSorted (pCons (pV 2) pNil))) (gTp (gsCons (gN 6) (gsCons (gN 7) (gsCons (gN 8) (gsCons (gN 9) gsNil))))) pYes e_falls_0 [6, 7, 8, 9]))))))
def f_falls : List D → Rs D := runF 10 p_falls
/-- never_fall(table, balls) : 0 table, 1 balls, 2 ball -/
def e_never_fall_0 : Ev → Rs D :=
  (pBin fIx (pV 2) (pC (.int 0)))
def t_never_fall_0 : Ev → Rs Bool :=
  (pB (pBin fIs (pFn (arity 2 f_fall_of) [] (pCons (pV 0) (pCons (pV 2) pNil))) (pC .non)))
def p_never_fall : Ev → Fl :=
  (pSeq (pDrop (pFn (arity 2 f_check_balls) [] (pCons (pV 0) (pCons (pV 1) pNil))))
  (pRet (pLc (pIter (pV 1)) (gN 2) t_never_fall_0 e_never_fall_0 [2])))
def f_never_fall : List D → Rs D := runF 3 p_never_fall
/-- _law_fall(_law_table_here, _law_ball_here) : 0 _law_table_here, 1 _law_ball_here, 2 _law_rows, 3 _law_k -/
def l_law_fall_0 : Ev → Fl :=
  (pIfS (pB (pBin (fIn2 false) (pTup (pCons (pBin fIx (pBin fIx (pV 2) (pV 3)) (pC (.int 0))) (pCons (pBin fIx (pBin fIx (pV 2) (pV 3)) (pC (.int 1))) pNil))) (pBin fIx (pV 0) (pC (.int 2)))))
    (pRet (pBin fAdd (pBin fIx (pV 1) (pC (.int 5))) (pV 3)))
    pNext)
def p_law_fall : Ev → Fl :=
  (pSeq (pSet 2 (pFn (arity 4 f_law_walk_v2) [] (pCons (pBin fIx (pV 0) (pC (.int 0))) (pCons (pBin fIx (pV 0) (pC (.int 1))) (pCons (pV 1) (pCons (pBin fMul (pBin fMul (pC (.int 4)) (pBin fIx (pV 0) (pC (.int 0)))) (pBin fIx (pV 0) (pC (.int 1)))) pNil))))))
  (pSeq (pFor (pRg1 (pCons (pCall fLen (pCons (pV 2) pNil)) pNil)) (gN 3) l_law_fall_0)
  (pRet (pC .non))))
def f_law_fall : List D → Rs D := runF 4 p_law_fall
/-- number_to(last, remainder, modulus) : 0 last, 1 remainder, 2 modulus -/
def p_number_to : Ev → Fl :=
  (pRet (pIf (pB (pBin fGe (pV 0) (pV 1))) (pBin fAdd (pBin fDiv (pBin fSub (pV 0) (pV 1)) (pV 2)) (pC (.int 1))) (pC (.int 0))))
def f_number_to : List D → Rs D := runF 3 p_number_to
/-- Round.__init__(self, length, edges) : 0 self, 1 length, 2 edges -/
def r_Round_init_0 : Ev → Fl :=
  pNext
def p_Round_init : PI0 :=
  (qFld "Round" "length" (pV 1)
  (qFld "Round" "edges" (pV 2)
  (qRest r_Round_init_0)))
def f_Round_init : Addr → List D → Rs D := runI 3 "Round" p_Round_init
/-- Round.weight_to(self, last) : 0 self, 1 last, 2 total, 3 corner, 4 remainder, 5 modulus -/
def e_Round_weight_to_0 : Ev → Rs D :=
  (pFn (arity 3 f_number_to) [] (pCons (pV 1) (pCons (pV 4) (pCons (pV 5) pNil))))
def p_Round_weight_to : Ev → Fl :=
  (pSeq (pSet 2 (pBin fAdd (pBin fAdd (pV 1) (pC (.int 1))) (pCall fSum (pCons (pLc (pIter (pUn (fFld "Round" "edges") (pV 0))) (gTp (gsCons (gN 4) (gsCons (gN 5) gsNil))) pYes e_Round_weight_to_0 [4, 5]) pNil))))
  (pSeq (pIfS (pB (pBin fEq (pCall fLen (pCons (pUn (fFld "Round" "edges") (pV 0)) pNil)) (pC (.int 2))))
    (pSeq (pSet 3 (pFn (arity 2 f_chinese) [] (pCons (pBin fIx (pUn (fFld "Round" "edges") (pV 0)) (pC (.int 0))) (pCons (pBin fIx (pUn (fFld "Round" "edges") (pV 0)) (pC (.int 1))) pNil))))
  (pIfS (pB (pBin fIsNot (pV 3) (pC .non)))
    (pAug fIAdd 2 (pFn (arity 3 f_number_to) [] (pCons (pV 1) (pCons (pBin fIx (pV 3) (pC (.int 0))) (pCons (pBin fIx (pV 3) (pC (.int 1))) pNil)))))
    pNext))
    pNext)
  (pRet (pV 2))))
def f_Round_weight_to : List D → Rs D := runF 6 p_Round_weight_to
/-- _law_great(_law_numbers_here, _law_at) : 0 _law_numbers_here, 1 _law_at, 2 _law_value, 3 _law_k -/
def l_law_great_v2_0 : Ev → Fl :=
  (pSet 2 (pBin fAdd (pBin fMul (pC (.int 1009)) (pV 2)) (pBin fIx (pV 0) (pBin fAdd (pBin fAdd (pV 1) (pC (.int 1))) (pV 3)))))
def p_law_great_v2 : Ev → Fl :=
  (pSeq (pSet 2 (pC (.int 0)))
  (pSeq (pFor (pRg1 (pCons (pBin fAdd (pC (.int 1)) (pBin fMod (pCall fInt (pCons (pBin fIx (pV 0) (pV 1)) pNil)) (pC (.int 9)))) pNil)) (gN 3) l_law_great_v2_0)
  (pRet (pV 2))))
def f_law_great_v2 : List D → Rs D := runF 4 p_law_great_v2
/-- _law_directions() :  -/
def p_law_directions : Ev → Fl :=
  (pRet (pLst (pCons (pTup (pCons (pUn fNeg (pC (.int 1))) (pCons (pUn fNeg (pC (.int 1))) pNil))) (pCons (pTup (pCons (pUn fNeg (pC (.int 1))) (pCons (pC (.int 0)) pNil))) (pCons (pTup (pCons (pUn fNeg (pC (.int 1))) (pCons (pC (.int 1)) pNil))) (pCons (pTup (pCons (pC (.int 0)) (pCons (pUn fNeg (pC (.int 1))) pNil))) (pCons (pTup (pCons (pC (.int 0)) (pCons (pC (.int 1)) pNil))) (pCons (pTup (pCons (pC (.int 1)) (pCons (pUn fNeg (pC (.int 1))) pNil))) (pCons (pTup (pCons (pC (.int 1)) (pCons (pC (.int 0)) pNil))) (pCons (pTup (pCons (pC (.int 1)) (pCons (pC (.int 1)) pNil))) pNil))))))))))
def f_law_directions : List D → Rs D := runF 0 p_law_directions
/-- _law_gcd(_law_one, _law_other) : 0 _law_one, 1 _law_other, 2 _law_turn -/
def l_law_gcd_0 : Ev → Fl :=
  (pIfS (pB (pBin fGt (pV 1) (pC (.int 0))))
    (pPar 0 1 (pCons (pV 1) (pCons (pBin fMod (pCall fInt (pCons (pV 0) pNil)) (pV 1)) pNil)))
    pNext)
def p_law_gcd : Ev → Fl :=
  (pSeq (pFor (pRg1 (pCons (pC (.int 400)) pNil)) (gN 2) l_law_gcd_0)
  (pRet (pV 0)))
def f_law_gcd : List D → Rs D := runF 3 p_law_gcd
/-- _law_great_table(_law_numbers_here, _law_at) : 0 _law_numbers_here, 1 _law_at, 2 _law_width, 3 _law_height, 4 _law_pockets, 5 _law_k, 6 _law_x, 7 _law_y -/
def l_law_great_table_0 : Ev → Fl :=
  (pSeq (pSet 6 (pBin fMod (pCall fInt (pCons (pFn (arity 2 f_law_great_v2) [] (pCons (pV 0) (pCons (pBin fAdd (pBin fAdd (pV 1) (pC (.int 21))) (pBin fMul (pC (.int 10)) (pV 5))) pNil))) pNil)) (pBin fAdd (pV 2) (pC (.int 1)))))
  (pSeq (pSet 7 (pBin fMod (pCall fInt (pCons (pFn (arity 2 f_law_great_v2) [] (pCons (pV 0) (pCons (pBin fAdd (pBin fAdd (pV 1) (pC (.int 51))) (pBin fMul (pC (.int 10)) (pV 5))) pNil))) pNil)) (pBin fAdd (pV 3) (pC (.int 1)))))
  (pSeq (pIfS (pB (pBin fEq (pBin fMod (pCall fInt (pCons (pBin fIx (pV 0) (pBin fAdd (pBin fAdd (pV 1) (pC (.int 81))) (pV 5))) pNil)) (pC (.int 4))) (pC (.int 0))))
    (pSet 6 (pBin fIx (pTup (pCons (pC (.int 0)) (pCons (pV 2) pNil))) (pBin fMod (pCall fInt (pCons (pBin fDiv (pBin fIx (pV 0) (pBin fAdd (pBin fAdd (pV 1) (pC (.int 81))) (pV 5))) (pC (.int 4))) pNil)) (pC (.int 2)))))
    pNext)
  (pSeq (pIfS (pB (pBin fEq (pBin fMod (pCall fInt (pCons (pBin fIx (pV 0) (pBin fAdd (pBin fAdd (pV 1) (pC (.int 81))) (pV 5))) pNil)) (pC (.int 3))) (pC (.int 0))))
    (pSet 7 (pBin fIx (pTup (pCons (pC (.int 0)) (pCons (pV 3) pNil))) (pBin fMod (pCall fInt (pCons (pBin fDiv (pBin fIx (pV 0) (pBin fAdd (pBin fAdd (pV 1) (pC (.int 81))) (pV 5))) (pC (.int 3))) pNil)) (pC (.int 2)))))
    pNext)
  (pIfS (pB (pBin (fIn2 true) (pTup (pCons (pV 6) (pCons (pV 7) pNil))) (pVo 4)))
    (pApp 4 (pTup (pCons (pV 6) (pCons (pV 7) pNil))))
    pNext)))))
def p_law_great_table : Ev → Fl :=
  (pSeq (pSet 2 (pBin fAdd (pC (.int 1)) (pFn (arity 2 f_law_great_v2) [] (pCons (pV 0) (pCons (pV 1) pNil)))))
  (pSeq (pSet 3 (pBin fAdd (pC (.int 1)) (pFn (arity 2 f_law_great_v2) [] (pCons (pV 0) (pCons (pBin fAdd (pV 1) (pC (.int 10))) pNil)))))
  (pSeq (pSetO 4 (pLst pNil))
  (pSeq (pFor (pRg1 (pCons (pBin fMod (pCall fInt (pCons (pBin fIx (pV 0) (pBin fAdd (pV 1) (pC (.int 20)))) pNil)) (pC (.int 4))) pNil)) (gN 5) l_law_great_table_0)
  (pFrz 4 (pRet (pTup (pCons (pV 2) (pCons (pV 3) (pCons (pCall fTuple (pCons (pV 4) pNil)) pNil))))))))))
def f_law_great_table : List D → Rs D := runF 8 p_law_great_table
abbrev c_DIRECTIONS : D := .tup [.tup [.int (-1), .int (-1)], .tup [.int (-1), .int 0], .tup [.int (-1), .int 1], .tup [.int 0, .int (-1)], .tup [.int 0, .int 1], .tup [.int 1, .int (-1)], .tup [.int 1, .int 0], .tup [.int 1, .int 1]]
/-- starts_from(table, point, minute) : 0 table, 1 point, 2 minute, 3 dx, 4 dy -/
def e_starts_from_0 : Ev → Rs D :=
  (pTup (pCons (pC (.str "aim")) (pCons (pBin fIx (pV 1) (pC (.int 0))) (pCons (pBin fIx (pV 1) (pC (.int 1))) (pCons (pV 3) (pCons (pV 4) (pCons (pV 2) pNil)))))))
def p_starts_from : Ev → Fl :=
  (pSeq (pDrop (pMeth "Table" "check_point" (arity 2 f_Table_check_point) (pV 0) (pCons (pV 1) pNil)))
  (pSeq (pIfS (pNot (pB (pChain fLe fLe (pC (.int 0)) (pV 2) (pC c_MOST))))
    (fun ρ => Fl.err "InvalidQuestion" none ρ)
    pNext)
  (pRet (pLc (pIter (pC c_DIRECTIONS)) (gTp (gsCons (gN 3) (gsCons (gN 4) gsNil))) pYes e_starts_from_0 [3, 4]))))
def f_starts_from : List D → Rs D := runF 5 p_starts_from
/-- pocket_aims(table, point, minute, pocket) : 0 table, 1 point, 2 minute, 3 pocket, 4 balls, 5 found, 6 ball, 7 fall -/
def l_pocket_aims_0 : Ev → Fl :=
  (pSeq (pSet 7 (pFn (arity 2 f_fall_of) [] (pCons (pV 0) (pCons (pV 6) pNil))))
  (pIfS (pAnd (pB (pBin fIsNot (pV 7) (pC .non))) (pB (pBin fEq (pBin fIx (pV 7) (pC (.int 1))) (pCall fTuple (pCons (pV 3) pNil)))))
    (pApp 5 (pTup (pCons (pBin fIx (pV 7) (pC (.int 0))) (pCons (pSl fSl (pV 6) (pPart (pC (.int 3))) (pPart (pC (.int 5)))) pNil))))
    pNext))
def p_pocket_aims : Ev → Fl :=
  (pSeq (pSet 4 (pFn (arity 3 f_starts_from) [] (pCons (pV 0) (pCons (pV 1) (pCons (pV 2) pNil)))))
  (pSeq (pIfS (pNot (pTr (pMeth "Table" "is_pocket" (arity 2 f_Table_is_pocket) (pV 0) (pCons (pV 3) pNil))))
    (fun ρ => Fl.err "InvalidQuestion" none ρ)
    pNext)
  (pSeq (pSetO 5 (pLst pNil))
  (pSeq (pFor (pIter (pV 4)) (gN 6) l_pocket_aims_0)
  (pFrz 5 (pRet (pCall fSorted (pCons (pV 5) pNil))))))))
def f_pocket_aims : List D → Rs D := runF 8 p_pocket_aims
/-- _law_walk(_law_width, _law_height, _law_ball, _law_many) : 0 _law_width, 1 _law_height, 2 _law_ball, 3 _law_many, 4 _law_name, 5 _law_x, 6 _law_y, 7 _law_dx, 8 _law_dy, 9 _law_minute, 10 _law_rows, 11 _law_turn -/
def l_law_walk_v4_0 : Ev → Fl :=
  (pSeq (pIfS (pOr (pB (pBin fLt (pBin fAdd (pV 5) (pV 7)) (pC (.int 0)))) (pB (pBin fGt (pBin fAdd (pV 5) (pV 7)) (pV 0))))
    (pSet 7 (pUn fNeg (pV 7)))
    pNext)
  (pSeq (pIfS (pOr (pB (pBin fLt (pBin fAdd (pV 6) (pV 8)) (pC (.int 0)))) (pB (pBin fGt (pBin fAdd (pV 6) (pV 8)) (pV 1))))
    (pSet 8 (pUn fNeg (pV 8)))
    pNext)
  (pSeq (pApp 10 (pTup (pCons (pV 5) (pCons (pV 6) (pCons (pV 7) (pCons (pV 8) pNil))))))
  (pSeq (pSet 5 (pBin fAdd (pV 5) (pV 7)))
  (pSet 6 (pBin fAdd (pV 6) (pV 8)))))))
def p_law_walk_v4 : Ev → Fl :=
  (pSeq (pAsg (gTp (gsCons (gN 4) (gsCons (gN 5) (gsCons (gN 6) (gsCons (gN 7) (gsCons (gN 8) (gsCons (gN 9) gsNil))))))) (pV 2))
  (pSeq (pSetO 10 (pLst pNil))
  (pSeq (pFor (pRg1 (pCons (pBin fAdd (pV 3) (pC (.int 1))) pNil)) (gN 11) l_law_walk_v4_0)
  (pFrz 10 (pRet (pV 10))))))
def f_law_walk_v4 : List D → Rs D := runF 12 p_law_walk_v4
/-- _law_point(_law_numbers_here, _law_at, _law_width, _law_height) : 0 _law_numbers_here, 1 _law_at, 2 _law_width, 3 _law_height -/
def p_law_point : Ev → Fl :=
  (pRet (pTup (pCons (pBin fMod (pCall fInt (pCons (pBin fIx (pV 0) (pV 1)) pNil)) (pBin fAdd (pV 2) (pC (.int 1)))) (pCons (pBin fMod (pCall fInt (pCons (pBin fIx (pV 0) (pBin fAdd (pV 1) (pC (.int 1)))) pNil)) (pBin fAdd (pV 3) (pC (.int 1)))) pNil))))
def f_law_point : List D → Rs D := runF 4 p_law_point
/-- meeting_aims(table, point, minute, ball) : 0 table, 1 point, 2 minute, 3 ball, 4 balls, 5 found, 6 aim, 7 first -/
def l_meeting_aims_0 : Ev → Fl :=
  (pSeq (pSet 7 (pMeth "Times" "next_from" (arity 2 f_Times_next_from) (pFn (arity 3 f_meetings) [] (pCons (pV 0) (pCons (pV 6) (pCons (pV 3) pNil)))) (pCons (pC (.int 0)) pNil)))
  (pIfS (pB (pBin fIsNot (pV 7) (pC .non)))
    (pApp 5 (pTup (pCons (pV 7) (pCons (pSl fSl (pV 6) (pPart (pC (.int 3))) (pPart (pC (.int 5)))) pNil))))
    pNext))
def p_meeting_aims : Ev → Fl :=
  (pSeq (pSet 4 (pFn (arity 3 f_starts_from) [] (pCons (pV 0) (pCons (pV 1) (pCons (pV 2) pNil)))))
  (pSeq (pDrop (pFn (arity 2 f_check_ball) [] (pCons (pV 0) (pCons (pV 3) pNil))))
  (pSeq (pSetO 5 (pLst pNil))
  (pSeq (pFor (pIter (pV 4)) (gN 6) l_meeting_aims_0)
  (pFrz 5 (pRet (pCall fSorted (pCons (pV 5) pNil))))))))
def f_meeting_aims : List D → Rs D := runF 8 p_meeting_aims
/-- _law_first_meeting(_law_width, _law_height, _law_one, _law_other) : 0 _law_width, 1 _law_height, 2 _law_one, 3 _law_other, 4 _law_start, 5 _law_many, 6 _law_rows, 7 _law_others, 8 _law_minute, 9 _law_row_here -/
def e_law_first_meeting_0 : Ev → Rs D :=
  (pSl fSl (pV 9) pNo (pPart (pC (.int 2))))
def e_law_first_meeting_1 : Ev → Rs D :=
  (pSl fSl (pV 9) pNo (pPart (pC (.int 2))))
def l_law_first_meeting_0 : Ev → Fl :=
  (pIfS (pB (pBin fEq (pBin fIx (pV 6) (pBin fSub (pV 8) (pBin fIx (pV 2) (pC (.int 5))))) (pBin fIx (pV 7) (pBin fSub (pV 8) (pBin fIx (pV 3) (pC (.int 5)))))))
    (pRet (pV 8))
    pNext)
def p_law_first_meeting : Ev → Fl :=
  (pSeq (pSet 4 (pCall fMax2 (pCons (pBin fIx (pV 2) (pC (.int 5))) (pCons (pBin fIx (pV 3) (pC (.int 5))) pNil))))
  (pSeq (pSet 5 (pBin fAdd (pBin fMul (pBin fMul (pC (.int 4)) (pV 0)) (pV 1)) (pC (.int 10))))
  (pSeq (pSet 6 (pLc (pIter (pFn (arity 4 f_law_walk_v2) [] (pCons (pV 0) (pCons (pV 1) (pCons (pV 2) (pCons (pV 5) pNil)))))) (gN 9) pYes e_law_first_meeting_0 [9]))
  (pSeq (pSet 7 (pLc (pIter (pFn (arity 4 f_law_walk_v2) [] (pCons (pV 0) (pCons (pV 1) (pCons (pV 3) (pCons (pV 5) pNil)))))) (gN 9) pYes e_law_first_meeting_1 [9]))
  (pSeq (pFor (pRg2 (pCons (pV 4) (pCons (pBin fAdd (pV 4) (pBin fMul (pBin fMul (pC (.int 4)) (pV 0)) (pV 1))) pNil))) (gN 8) l_law_first_meeting_0)
  (pRet (pC .non)))))))
def f_law_first_meeting : List D → Rs D := runF 10 p_law_first_meeting
/-- in_order(table, ball, points) : 0 table, 1 ball, 2 points, 3 point, 4 minutes, 5 following, 6 minute -/
def l_in_order_0 : Ev → Fl :=
  (pDrop (pMeth "Table" "check_point" (arity 2 f_Table_check_point) (pV 0) (pCons (pV 3) pNil)))
def l_in_order_1 : Ev → Fl :=
  (pSeq (pSet 6 (pMeth "Times" "next_from" (arity 2 f_Times_next_from) (pFn (arity 3 f_at_point) [] (pCons (pV 0) (pCons (pV 1) (pCons (pV 3) pNil)))) (pCons (pV 5) pNil)))
  (pSeq (pIfS (pB (pBin fIs (pV 6) (pC .non)))
    (pRet (pC .non))
    pNext)
  (pSeq (pApp 4 (pV 6))
  (pSet 5 (pBin fAdd (pV 6) (pC (.int 1)))))))
def p_in_order : Ev → Fl :=
  (pSeq (pDrop (pFn (arity 2 f_check_ball) [] (pCons (pV 0) (pCons (pV 1) pNil))))
  (pSeq (pFor (pIter (pV 2)) (gN 3) l_in_order_0)
  (pSeq (pSetO 4 (pLst pNil))
  (pSeq (pSet 5 (pBin fIx (pV 1) (pC (.int 5))))
  (pSeq (pFor (pIter (pV 2)) (gN 3) l_in_order_1)
  (pFrz 4 (pRet (pV 4))))))))
def f_in_order : List D → Rs D := runF 7 p_in_order
/-- order_aims(table, point, minute, points) : 0 table, 1 point, 2 minute, 3 points, 4 balls, 5 other, 6 found, 7 ball, 8 minutes -/
def l_order_aims_0 : Ev → Fl :=
  (pDrop (pMeth "Table" "check_point" (arity 2 f_Table_check_point) (pV 0) (pCons (pV 5) pNil)))
def l_order_aims_1 : Ev → Fl :=
  (pSeq (pSet 8 (pFn (arity 3 f_in_order) [] (pCons (pV 0) (pCons (pV 7) (pCons (pV 3) pNil)))))
  (pIfS (pB (pBin fIsNot (pV 8) (pC .non)))
    (pApp 6 (pTup (pCons (pBestD fMaxD (pV 8) (pV 2)) (pCons (pSl fSl (pV 7) (pPart (pC (.int 3))) (pPart (pC (.int 5)))) pNil))))
    pNext))
def p_order_aims : Ev → Fl :=
  (pSeq (pSet 4 (pFn (arity 3 f_starts_from) [] (pCons (pV 0) (pCons (pV 1) (pCons (pV 2) pNil)))))
  (pSeq (pFor (pIter (pV 3)) (gN 5) l_order_aims_0)
  (pSeq (pSetO 6 (pLst pNil))
  (pSeq (pFor (pIter (pV 4)) (gN 7) l_order_aims_1)
  (pFrz 6 (pRet (pCall fSorted (pCons (pV 6) pNil))))))))
def f_order_aims : List D → Rs D := runF 9 p_order_aims
/-- first_row(row) : 0 row -/
def p_first_row : Ev → Fl :=
  (pRet (pBin fIx (pV 0) (pC (.int 0))))
def f_first_row : List D → Rs D := runF 1 p_first_row
/-- Game.__init__(self, table, balls) : 0 self, 1 table, 2 balls, 3 ball -/
def e_Game_init_0 : Ev → Rs D :=
  (pCall fTuple (pCons (pV 3) pNil))
def e_Game_init_1 : Ev → Rs D :=
  (pFn (arity 2 f_first_fall) [] (pCons (pV 1) (pCons (pV 3) pNil)))
def r_Game_init_0 : Ev → Fl :=
  pNext
def p_Game_init : PI0 :=
  (qStm (pDrop (pFn (arity 2 f_check_balls) [] (pCons (pV 1) (pCons (pV 2) pNil))))
  (qFld "Game" "table" (pV 1)
  (qFld "Game" "balls" (pCall fTuple (pCons (pLc (pIter (pV 2)) (gN 3) pYes e_Game_init_0 [3]) pNil))
  (qFld "Game" "falls" (pCall fTuple (pCons (pLc (pIter (pUn (fFld "Game" "balls") (pV 0))) (gN 3) pYes e_Game_init_1 [3]) pNil))
  (qRest r_Game_init_0)))))
def f_Game_init : Addr → List D → Rs D := runI 4 "Game" p_Game_init
/-- Game.names(self) : 0 self, 1 ball -/
def e_Game_names_0 : Ev → Rs D :=
  (pBin fIx (pV 1) (pC (.int 0)))
def p_Game_names : Ev → Fl :=
  (pRet (pCall fTuple (pCons (pLc (pIter (pUn (fFld "Game" "balls") (pV 0))) (gN 1) pYes e_Game_names_0 [1]) pNil)))
def f_Game_names : List D → Rs D := runF 2 p_Game_names
/-- _law_make(_law_table_here) : 0 _law_table_here -/
def p_law_make : Ev → Fl :=
  (pRet (pFn (arity 3 (anyX f_Table_init)) [] (pCons (pBin fIx (pV 0) (pC (.int 0))) (pCons (pBin fIx (pV 0) (pC (.int 1))) (pCons (pCall fList (pCons (pBin fIx (pV 0) (pC (.int 2))) pNil)) pNil)))))
def f_law_make : List D → Rs D := runF 1 p_law_make
/-- _law_fallen(_law_table_here, _law_balls_here) : 0 _law_table_here, 1 _law_balls_here, 2 _law_found, 3 _law_k, 4 _law_fall_here, 5 _law_row_here -/
def l_law_fallen_0 : Ev → Fl :=
  (pSeq (pSet 4 (pFn (arity 2 f_law_fall) [] (pCons (pV 0) (pCons (pBin fIx (pV 1) (pV 3)) pNil))))
  (pIfS (pB (pBin fIsNot (pV 4) (pC .non)))
    (pApp 2 (pTup (pCons (pV 4) (pCons (pV 3) (pCons (pBin fIx (pBin fIx (pV 1) (pV 3)) (pC (.int 0))) pNil)))))
    pNext))
def e_law_fallen_0 : Ev → Rs D :=
  (pTup (pCons (pBin fIx (pV 5) (pC (.int 0))) (pCons (pBin fIx (pV 5) (pC (.int 2))) pNil)))
def p_law_fallen : Ev → Fl :=
  (pSeq (pSetO 2 (pLst pNil))
  (pSeq (pFor (pRg1 (pCons (pCall fLen (pCons (pV 1) pNil)) pNil)) (gN 3) l_law_fallen_0)
  (pFrz 2 (pRet (pLc (pIter (pCall fSorted (pCons (pV 2) pNil))) (gN 5) pYes e_law_fallen_0 [5])))))
def f_law_fallen : List D → Rs D := runF 6 p_law_fallen
/-- earlier(one, other) : 0 one, 1 other -/
def p_earlier : Ev → Fl :=
  (pSeq (pIfS (pOr (pB (pBin fIs (pV 0) (pC .non))) (pB (pBin fIs (pV 1) (pC .non))))
    (pRet (pIf (pB (pBin fIs (pV 1) (pC .non))) (pV 0) (pV 1)))
    pNext)
  (pRet (pCall fMin2 (pCons (pV 0) (pCons (pV 1) pNil)))))
def f_earlier : List D → Rs D := runF 2 p_earlier
/-- _law_meets(_law_table_here, _law_one, _law_other) : 0 _law_table_here, 1 _law_one, 2 _law_other, 3 _law_found, 4 _law_most, 5 _law_first, 6 _law_second, 7 _law_last, 8 _law_ball_here, 9 _law_fall_here, 10 _law_minute, 11 _law_here, 12 _law_there -/
def l_law_meets_0 : Ev → Fl :=
  (pSeq (pSet 9 (pFn (arity 2 f_law_fall) [] (pCons (pV 0) (pCons (pV 8) pNil))))
  (pIfS (pAnd (pB (pBin fIsNot (pV 9) (pC .non))) (pB (pBin fLt (pV 9) (pV 7))))
    (pSet 7 (pV 9))
    pNext))
def l_law_meets_1 : Ev → Fl :=
  (pSeq (pSet 11 (pBin fIx (pV 5) (pBin fSub (pV 10) (pBin fIx (pV 1) (pC (.int 5))))))
  (pSeq (pSet 12 (pBin fIx (pV 6) (pBin fSub (pV 10) (pBin fIx (pV 2) (pC (.int 5))))))
  (pIfS (pB (pBin fEq (pTup (pCons (pBin fIx (pV 11) (pC (.int 0))) (pCons (pBin fIx (pV 11) (pC (.int 1))) pNil))) (pTup (pCons (pBin fIx (pV 12) (pC (.int 0))) (pCons (pBin fIx (pV 12) (pC (.int 1))) pNil)))))
    (pApp 3 (pV 10))
    pNext)))
def p_law_meets : Ev → Fl :=
  (pSeq (pSetO 3 (pLst pNil))
  (pSeq (pSet 4 (pBin fAdd (pBin fMul (pBin fMul (pC (.int 8)) (pBin fIx (pV 0) (pC (.int 0)))) (pBin fIx (pV 0) (pC (.int 1)))) (pC (.int 6))))
  (pSeq (pSet 5 (pFn (arity 4 f_law_walk_v2) [] (pCons (pBin fIx (pV 0) (pC (.int 0))) (pCons (pBin fIx (pV 0) (pC (.int 1))) (pCons (pV 1) (pCons (pV 4) pNil))))))
  (pSeq (pSet 6 (pFn (arity 4 f_law_walk_v2) [] (pCons (pBin fIx (pV 0) (pC (.int 0))) (pCons (pBin fIx (pV 0) (pC (.int 1))) (pCons (pV 2) (pCons (pV 4) pNil))))))
  (pSeq (pSet 7 (pV 4))
  (pSeq (pFor (pIter (pTup (pCons (pV 1) (pCons (pV 2) pNil)))) (gN 8) l_law_meets_0)
  (pSeq (pFor (pRg2 (pCons (pCall fMax2 (pCons (pBin fIx (pV 1) (pC (.int 5))) (pCons (pBin fIx (pV 2) (pC (.int 5))) pNil))) (pCons (pBin fAdd (pV 7) (pC (.int 1))) pNil))) (gN 10) l_law_meets_1)
  (pFrz 3 (pRet (pV 3))))))))))
def f_law_meets : List D → Rs D := runF 13 p_law_meets
/-- Game.with_ball(self, ball) : 0 self, 1 ball -/
def p_Game_with_ball : Ev → Fl :=
  (pRet (pFn (arity 2 (anyX f_Game_init)) [] (pCons (pUn (fFld "Game" "table") (pV 0)) (pCons (pBin fAdd (pUn (fFld "Game" "balls") (pV 0)) (pTup (pCons (pCall fTuple (pCons (pV 1) pNil)) pNil))) pNil))))
def f_Game_with_ball : List D → Rs D := runF 2 p_Game_with_ball
/-- Book.game_names(self) : 0 self -/
def p_Book_game_names : Ev → Fl :=
  (pRet (pCall fSorted (pCons (pUn (fFld "Book" "games") (pV 0)) pNil)))
def f_Book_game_names : List D → Rs D := runF 1 p_Book_game_names
/-- _law_deeds(_law_numbers_here, _law_at, _law_many, _law_names_here) : 0 _law_numbers_here, 1 _law_at, 2 _law_many, 3 _law_names_here, 4 _law_kinds, 5 _law_deeds_here, 6 _law_k, 7 _law_spot, 8 _law_name, 9 _law_deed, 10 _law_table_here, 11 _law_balls, 12 _law_j -/
def l_law_deeds_0 : Ev → Fl :=
  (pApp 11 (pFn (arity 5 f_law_ball_v2) [] (pCons (pV 0) (pCons (pBin fAdd (pBin fAdd (pV 7) (pC (.int 9))) (pBin fMul (pC (.int 5)) (pV 12))) (pCons (pBin fIx (pTup (pCons (pC (.str "p")) (pCons (pC (.str "q")) (pCons (pC (.str "r")) pNil)))) (pBin fMod (pBin fDiv (pCall fInt (pCons (pBin fIx (pV 0) (pBin fAdd (pBin fAdd (pV 7) (pC (.int 9))) (pBin fMul (pC (.int 5)) (pV 12)))) pNil)) (pC (.int 10))) (pC (.int 3)))) (pCons (pBin fIx (pV 10) (pC (.int 0))) (pCons (pBin fIx (pV 10) (pC (.int 1))) pNil)))))))
def l_law_deeds_1 : Ev → Fl :=
  (pSeq (pSet 7 (pBin fAdd (pV 1) (pBin fMul (pC (.int 24)) (pV 6))))
  (pSeq (pSet 8 (pBin fIx (pV 3) (pBin fMod (pCall fInt (pCons (pBin fIx (pV 0) (pBin fAdd (pV 7) (pC (.int 1)))) pNil)) (pC (.int 2)))))
  (pSeq (pSet 9 (pBin fIx (pV 4) (pBin fMod (pCall fInt (pCons (pBin fIx (pV 0) (pV 7)) pNil)) (pC (.int 10)))))
  (pSeq (pSet 10 (pFn (arity 2 f_law_table) [] (pCons (pV 0) (pCons (pBin fAdd (pV 7) (pC (.int 2))) pNil))))
  (pSeq (pSetO 11 (pLst pNil))
  (pSeq (pFor (pRg1 (pCons (pBin fMod (pCall fInt (pCons (pBin fIx (pV 0) (pBin fAdd (pV 7) (pC (.int 8)))) pNil)) (pC (.int 3))) pNil)) (gN 12) l_law_deeds_0)
  (pFrz 11 (pIfS (pB (pBin fEq (pV 9) (pC (.str "set_game"))))
    (pApp 5 (pTup (pCons (pV 9) (pCons (pV 8) (pCons (pV 10) (pCons (pV 11) pNil))))))
    (pIfS (pB (pBin fEq (pV 9) (pC (.str "put_ball"))))
    (pApp 5 (pTup (pCons (pV 9) (pCons (pV 8) (pCons (pFn (arity 5 f_law_ball_v2) [] (pCons (pV 0) (pCons (pBin fAdd (pV 7) (pC (.int 9))) (pCons (pBin fIx (pTup (pCons (pC (.str "p")) (pCons (pC (.str "q")) (pCons (pC (.str "r")) (pCons (pC (.str "s")) pNil))))) (pBin fMod (pCall fInt (pCons (pBin fIx (pV 0) (pBin fAdd (pV 7) (pC (.int 20)))) pNil)) (pC (.int 4)))) (pCons (pC (.int 6)) (pCons (pC (.int 3)) pNil)))))) pNil)))))
    (pIfS (pB (pBin fEq (pV 9) (pC (.str "take_ball"))))
    (pApp 5 (pTup (pCons (pV 9) (pCons (pV 8) (pCons (pBin fIx (pTup (pCons (pC (.str "p")) (pCons (pC (.str "q")) (pCons (pC (.str "r")) (pCons (pC (.str "s")) pNil))))) (pBin fMod (pCall fInt (pCons (pBin fIx (pV 0) (pBin fAdd (pV 7) (pC (.int 20)))) pNil)) (pC (.int 4)))) pNil)))))
    (pApp 5 (pTup (pCons (pV 9) (pCons (pV 8) pNil))))))))))))))
def p_law_deeds : Ev → Fl :=
  (pSeq (pSet 4 (pTup (pCons (pC (.str "set_game")) (pCons (pC (.str "set_game")) (pCons (pC (.str "set_game")) (pCons (pC (.str "drop_game")) (pCons (pC (.str "put_ball")) (pCons (pC (.str "put_ball")) (pCons (pC (.str "put_ball")) (pCons (pC (.str "take_ball")) (pCons (pC (.str "take_ball")) (pCons (pC (.str "set_game")) pNil))))))))))))
  (pSeq (pSetO 5 (pLst pNil))
  (pSeq (pFor (pRg1 (pCons (pV 2) pNil)) (gN 6) l_law_deeds_1)
  (pFrz 5 (pRet (pV 5))))))
def f_law_deeds : List D → Rs D := runF 13 p_law_deeds
/-- _law_balls_fault(_law_table_here, _law_balls) : 0 _law_table_here, 1 _law_balls, 2 _law_k, 3 _law_ball_here -/
def e_law_balls_fault_0 : Ev → Rs D :=
  (pBin fIx (pV 3) (pC (.int 0)))
def l_law_balls_fault_0 : Ev → Fl :=
  (pSeq (pIfS (pB (pBin (fIn2 false) (pBin fIx (pBin fIx (pV 1) (pV 2)) (pC (.int 0))) (pLc (pIter (pSl fSl (pV 1) pNo (pPart (pV 2)))) (gN 3) pYes e_law_balls_fault_0 [3])))
    (pRet (pTup (pCons (pC (.str "ball")) (pCons (pC (.str "")) pNil))))
    pNext)
  (pIfS (pOr (pB (pBin fGt (pBin fIx (pBin fIx (pV 1) (pV 2)) (pC (.int 1))) (pBin fIx (pV 0) (pC (.int 0))))) (pB (pBin fGt (pBin fIx (pBin fIx (pV 1) (pV 2)) (pC (.int 2))) (pBin fIx (pV 0) (pC (.int 1))))))
    (pRet (pTup (pCons (pC (.str "ball")) (pCons (pC (.str "")) pNil))))
    pNext))
def p_law_balls_fault : Ev → Fl :=
  (pSeq (pFor (pRg1 (pCons (pCall fLen (pCons (pV 1) pNil)) pNil)) (gN 2) l_law_balls_fault_0)
  (pRet (pC .non)))
def f_law_balls_fault : List D → Rs D := runF 4 p_law_balls_fault
/-- _law_fault(_law_state, _law_deed) : 0 _law_state, 1 _law_deed, 2 _law_word, 3 _law_name, 4 _law_ball_here -/
def e_law_fault_0 : Ev → Rs D :=
  (pBin fIx (pV 4) (pC (.int 0)))
def p_law_fault : Ev → Fl :=
  (pSeq (pPar 2 3 (pCons (pBin fIx (pV 1) (pC (.int 0))) (pCons (pBin fIx (pV 1) (pC (.int 1))) pNil)))
  (pSeq (pIfS (pB (pBin fEq (pV 2) (pC (.str "set_game"))))
    (pRet (pFn (arity 2 f_law_balls_fault) [] (pCons (pBin fIx (pV 1) (pC (.int 2))) (pCons (pBin fIx (pV 1) (pC (.int 3))) pNil))))
    pNext)
  (pSeq (pIfS (pB (pBin (fIn2 true) (pV 3) (pV 0)))
    (pRet (pTup (pCons (pC (.str "unknown")) (pCons (pV 3) pNil))))
    pNext)
  (pSeq (pIfS (pB (pBin fEq (pV 2) (pC (.str "put_ball"))))
    (pRet (pFn (arity 2 f_law_balls_fault) [] (pCons (pBin fIx (pBin fIx (pV 0) (pV 3)) (pC (.int 1))) (pCons (pBin fAdd (pCall fList (pCons (pBin fIx (pBin fIx (pV 0) (pV 3)) (pC (.int 2))) pNil)) (pLst (pCons (pBin fIx (pV 1) (pC (.int 2))) pNil))) pNil))))
    pNext)
  (pSeq (pIfS (pAnd (pB (pBin fEq (pV 2) (pC (.str "take_ball")))) (pB (pBin (fIn2 true) (pBin fIx (pV 1) (pC (.int 2))) (pLc (pIter (pBin fIx (pBin fIx (pV 0) (pV 3)) (pC (.int 2)))) (gN 4) pYes e_law_fault_0 [4]))))
    (pRet (pTup (pCons (pC (.str "unknown")) (pCons (pBin fIx (pV 1) (pC (.int 2))) pNil))))
    pNext)
  (pRet (pC .non)))))))
def f_law_fault : List D → Rs D := runF 5 p_law_fault
/-- _law_change(_law_deed) : 0 _law_deed -/
def p_law_change : Ev → Fl :=
  (pSeq (pIfS (pB (pBin fEq (pBin fIx (pV 0) (pC (.int 0))) (pC (.str "set_game"))))
    (pRet (pTup (pCons (pBin fIx (pV 0) (pC (.int 0))) (pCons (pBin fIx (pV 0) (pC (.int 1))) (pCons (pFn (arity 1 f_law_make) [] (pCons (pBin fIx (pV 0) (pC (.int 2))) pNil)) (pCons (pCall fList (pCons (pBin fIx (pV 0) (pC (.int 3))) pNil)) pNil))))))
    pNext)
  (pRet (pV 0)))
def f_law_change : List D → Rs D := runF 1 p_law_change
/-- Trial.__enter__(self) : 0 self -/
def p_Trial_enter : Ev → Fl :=
  (pRet (pUn (fFld "Trial" "book") (pV 0)))
def f_Trial_enter : List D → Rs D := runF 1 p_Trial_enter
/-- has_form(words, form) : 0 words, 1 form, 2 word, 3 sort -/
def l_has_form_0 : Ev → Fl :=
  (pIfS (pNot (pTr (pIf (pB (pBin fEq (pV 3) (pC (.str "name")))) (pFn (arity 1 f_is_name) [] (pCons (pV 2) pNil)) (pFn (arity 1 f_is_number) [] (pCons (pV 2) pNil)))))
    (pRet (pC (.bl false)))
    pNext)
def p_has_form : Ev → Fl :=
  (pSeq (pIfS (pB (pBin fNe (pCall fLen (pCons (pV 0) pNil)) (pCall fLen (pCons (pV 1) pNil))))
    (pRet (pC (.bl false)))
    pNext)
  (pSeq (pFor (pZip (pCons (pV 0) (pCons (pV 1) pNil))) (gTp (gsCons (gN 2) (gsCons (gN 3) gsNil))) l_has_form_0)
  (pRet (pC (.bl true)))))
def f_has_form : List D → Rs D := runF 4 p_has_form
abbrev c_FOR_EVER : D := .str "-"
abbrev c_MOST_DIGITS_v2 : D := .int 70
/-- is_number(word) : 0 word, 1 char -/
def e_is_number_v2_0 : Ev → Rs D :=
  (pBin (fIn2 false) (pV 1) (pC c_DIGITS))
def p_is_number_v2 : Ev → Fl :=
  (pSeq (pIfS (pOr (pNot (pB (pChain fLe fLe (pC (.int 1)) (pCall fLen (pCons (pV 0) pNil)) (pC c_MOST_DIGITS_v2)))) (pNot (pTr (pCall fAll (pCons (pLc (pIter (pV 0)) (gN 1) pYes e_is_number_v2_0 [1]) pNil)))))
    (pRet (pC (.bl false)))
    pNext)
  (pRet (pOrV (pBin fEq (pV 0) (pC (.str "0"))) (pBin fNe (pBin fIx (pV 0) (pC (.int 0))) (pC (.str "0"))))))
def f_is_number_v2 : List D → Rs D := runF 2 p_is_number_v2
/-- are_numbers(words, many) : 0 words, 1 many, 2 word -/
def e_are_numbers_0 : Ev → Rs D :=
  (pFn (arity 1 f_is_number_v2) [] (pCons (pV 2) pNil))
def p_are_numbers : Ev → Fl :=
  (pRet (pAndV (pBin fEq (pCall fLen (pCons (pV 0) pNil)) (pV 1)) (pCall fAll (pCons (pLc (pIter (pV 0)) (gN 2) pYes e_are_numbers_0 [2]) pNil))))
def f_are_numbers : List D → Rs D := runF 3 p_are_numbers
/-- check_factor(factor) : 0 factor -/
def p_check_factor : Ev → Fl :=
  (pIfS (pNot (pB (pChain fLe fLe (pC (.int 1)) (pV 0) (pC c_MOST))))
    (fun ρ => Fl.err "InvalidQuestion" none ρ)
    pNext)
def f_check_factor : List D → Rs D := runF 1 p_check_factor
/-- enlarged(table, factor) : 0 table, 1 factor, 2 pockets, 3 x, 4 y -/
def e_enlarged_0 : Ev → Rs D :=
  (pTup (pCons (pBin fMul (pV 3) (pV 1)) (pCons (pBin fMul (pV 4) (pV 1)) pNil)))
def p_enlarged : Ev → Fl :=
  (pSeq (pDrop (pFn (arity 1 f_check_factor) [] (pCons (pV 1) pNil)))
  (pSeq (pSet 2 (pLc (pIter (pUn (fFld "Table" "pockets") (pV 0))) (gTp (gsCons (gN 3) (gsCons (gN 4) gsNil))) pYes e_enlarged_0 [3, 4]))
  (pRet (pFn (arity 3 (anyX f_Table_init)) [] (pCons (pBin fMul (pUn (fFld "Table" "width") (pV 0)) (pV 1)) (pCons (pBin fMul (pUn (fFld "Table" "height") (pV 0)) (pV 1)) (pCons (pV 2) pNil)))))))
def f_enlarged : List D → Rs D := runF 5 p_enlarged
/-- enlarged_ball(table, ball, factor) : 0 table, 1 ball, 2 factor, 3 greater, 4 name, 5 x, 6 y, 7 dx, 8 dy, 9 minute, 10 found -/
def p_enlarged_ball : Ev → Fl :=
  (pSeq (pDrop (pFn (arity 2 f_check_ball) [] (pCons (pV 0) (pCons (pV 1) pNil))))
  (pSeq (pSet 3 (pFn (arity 2 f_enlarged) [] (pCons (pV 0) (pCons (pV 2) pNil))))
  (pSeq (pAsg (gTp (gsCons (gN 4) (gsCons (gN 5) (gsCons (gN 6) (gsCons (gN 7) (gsCons (gN 8) (gsCons (gN 9) gsNil))))))) (pV 1))
  (pSeq (pSet 10 (pTup (pCons (pV 4) (pCons (pBin fMul (pV 5) (pV 2)) (pCons (pBin fMul (pV 6) (pV 2)) (pCons (pV 7) (pCons (pV 8) (pCons (pBin fMul (pV 9) (pV 2)) pNil))))))))
  (pSeq (pDrop (pFn (arity 2 f_check_ball) [] (pCons (pV 3) (pCons (pV 10) pNil))))
  (pRet (pV 10)))))))
def f_enlarged_ball : List D → Rs D := runF 11 p_enlarged_ball
/-- factor_of(table, other) : 0 table, 1 other, 2 factor, 3 x, 4 y -/
def e_factor_of_0 : Ev → Rs D :=
  (pTup (pCons (pBin fMul (pV 3) (pV 2)) (pCons (pBin fMul (pV 4) (pV 2)) pNil)))
def p_factor_of : Ev → Fl :=
  (pSeq (pSet 2 (pBin fDiv (pUn (fFld "Table" "width") (pV 1)) (pUn (fFld "Table" "width") (pV 0))))
  (pSeq (pIfS (pOr (pB (pBin fNe (pUn (fFld "Table" "width") (pV 1)) (pBin fMul (pUn (fFld "Table" "width") (pV 0)) (pV 2)))) (pB (pBin fNe (pUn (fFld "Table" "height") (pV 1)) (pBin fMul (pUn (fFld "Table" "height") (pV 0)) (pV 2)))))
    (pRet (pC .non))
    pNext)
  (pSeq (pIfS (pB (pBin fNe (pCall fSorted (pCons (pUn (fFld "Table" "pockets") (pV 1)) pNil)) (pCall fSorted (pCons (pLc (pIter (pUn (fFld "Table" "pockets") (pV 0))) (gTp (gsCons (gN 3) (gsCons (gN 4) gsNil))) pYes e_factor_of_0 [3, 4]) pNil))))
    (pRet (pC .non))
    pNext)
  (pRet (pV 2)))))
def f_factor_of : List D → Rs D := runF 5 p_factor_of
/-- greatest_factor(table, balls) : 0 table, 1 balls, 2 factor, 3 x, 4 y, 5 _, 6 minute -/
def l_greatest_factor_0 : Ev → Fl :=
  (pSet 2 (pCall fGcd (pCons (pV 2) (pCons (pCall fGcd (pCons (pV 3) (pCons (pV 4) pNil))) pNil))))
def l_greatest_factor_1 : Ev → Fl :=
  (pSet 2 (pCall fGcd (pCons (pV 2) (pCons (pCall fGcd (pCons (pCall fGcd (pCons (pV 3) (pCons (pV 4) pNil))) (pCons (pV 6) pNil))) pNil))))
def p_greatest_factor : Ev → Fl :=
  (pSeq (pDrop (pFn (arity 2 f_check_balls) [] (pCons (pV 0) (pCons (pV 1) pNil))))
  (pSeq (pSet 2 (pCall fGcd (pCons (pUn (fFld "Table" "width") (pV 0)) (pCons (pUn (fFld "Table" "height") (pV 0)) pNil))))
  (pSeq (pFor (pIter (pUn (fFld "Table" "pockets") (pV 0))) (gTp (gsCons (gN 3) (gsCons (gN 4) gsNil))) l_greatest_factor_0)
  (pSeq (pFor (pIter (pV 1)) (gTp (gsCons (gN 5) (gsCons (gN 3) (gsCons (gN 4) (gsCons (gN 5) (gsCons (gN 5) (gsCons (gN 6) gsNil))))))) l_greatest_factor_1)
  (pRet (pV 2))))))
def f_greatest_factor : List D → Rs D := runF 7 p_greatest_factor
/-- reduced(table, balls) : 0 table, 1 balls, 2 factor, 3 pockets, 4 smaller, 5 rows, 6 x, 7 y, 8 name, 9 dx, 10 dy, 11 minute -/
def e_reduced_0 : Ev → Rs D :=
  (pTup (pCons (pBin fDiv (pV 6) (pV 2)) (pCons (pBin fDiv (pV 7) (pV 2)) pNil)))
def e_reduced_1 : Ev → Rs D :=
  (pTup (pCons (pV 8) (pCons (pBin fDiv (pV 6) (pV 2)) (pCons (pBin fDiv (pV 7) (pV 2)) (pCons (pV 9) (pCons (pV 10) (pCons (pBin fDiv (pV 11) (pV 2)) pNil)))))))
def p_reduced : Ev → Fl :=
  (pSeq (pSet 2 (pFn (arity 2 f_greatest_factor) [] (pCons (pV 0) (pCons (pV 1) pNil))))
  (pSeq (pSet 3 (pLc (pIter (pUn (fFld "Table" "pockets") (pV 0))) (gTp (gsCons (gN 6) (gsCons (gN 7) gsNil))) pYes e_reduced_0 [6, 7]))
  (pSeq (pSet 4 (pFn (arity 3 (anyX f_Table_init)) [] (pCons (pBin fDiv (pUn (fFld "Table" "width") (pV 0)) (pV 2)) (pCons (pBin fDiv (pUn (fFld "Table" "height") (pV 0)) (pV 2)) (pCons (pV 3) pNil)))))
  (pSeq (pSet 5 (pLc (pIter (pV 1)) (gTp (gsCons (gN 8) (gsCons (gN 6) (gsCons (gN 7) (gsCons (gN 9) (gsCons (gN 10) (gsCons (gN 11) gsNil))))))) pYes e_reduced_1 [8, 6, 7, 9, 10, 11]))
  (pRet (pTup (pCons (pV 4) (pCons (pV 5) pNil))))))))
def f_reduced : List D → Rs D := runF 12 p_reduced
/-- offset_of(size, place, step, start) : 0 size, 1 place, 2 step, 3 start -/
def p_offset_of : Ev → Fl :=
  (pRet (pBin fMod (pBin fSub (pFn (arity 3 f_phase_of) [] (pCons (pV 0) (pCons (pV 1) (pCons (pV 2) pNil)))) (pV 3)) (pBin fMul (pC (.int 2)) (pV 0))))
def f_offset_of : List D → Rs D := runF 4 p_offset_of
/-- met_moving(size, one, other) : 0 size, 1 one, 2 other, 3 total -/
def p_met_moving : Ev → Fl :=
  (pSeq (pIfS (pB (pBin fEq (pV 1) (pV 2)))
    (pRet (pLst (pCons (pTup (pCons (pC (.int 0)) (pCons (pC (.int 1)) pNil))) pNil)))
    pNext)
  (pSeq (pSet 3 (pBin fAdd (pV 1) (pV 2)))
  (pRet (pIf (pB (pBin fEq (pBin fMod (pV 3) (pC (.int 2))) (pC (.int 1)))) (pLst pNil) (pLst (pCons (pTup (pCons (pBin fMod (pUn fNeg (pBin fDiv (pV 3) (pC (.int 2)))) (pV 0)) (pCons (pV 0) pNil))) pNil))))))
def f_met_moving : List D → Rs D := runF 4 p_met_moving
/-- met_standing(size, moving, place) : 0 size, 1 moving, 2 place, 3 found -/
def p_met_standing : Ev → Fl :=
  (pSeq (pSet 3 (pLst (pCons (pTup (pCons (pBin fMod (pBin fSub (pV 2) (pV 1)) (pBin fMul (pC (.int 2)) (pV 0))) (pCons (pBin fMul (pC (.int 2)) (pV 0)) pNil))) (pCons (pTup (pCons (pBin fMod (pBin fSub (pUn fNeg (pV 2)) (pV 1)) (pBin fMul (pC (.int 2)) (pV 0))) (pCons (pBin fMul (pC (.int 2)) (pV 0)) pNil))) pNil))))
  (pRet (pIf (pB (pBin fEq (pBin fIx (pV 3) (pC (.int 0))) (pBin fIx (pV 3) (pC (.int 1))))) (pSl fSl (pV 3) pNo (pPart (pC (.int 1)))) (pV 3))))
def f_met_standing : List D → Rs D := runF 4 p_met_standing
/-- half_moving(size, one, other) : 0 size, 1 one, 2 other, 3 total -/
def p_half_moving : Ev → Fl :=
  (pSeq (pIfS (pB (pBin fEq (pV 1) (pV 2)))
    (pRet (pLst (pCons (pTup (pCons (pC (.int 0)) (pCons (pC (.int 1)) pNil))) pNil)))
    pNext)
  (pSeq (pSet 3 (pBin fAdd (pBin fAdd (pV 1) (pV 2)) (pC (.int 1))))
  (pRet (pIf (pB (pBin fEq (pBin fMod (pV 3) (pC (.int 2))) (pC (.int 1)))) (pLst pNil) (pLst (pCons (pTup (pCons (pBin fMod (pUn fNeg (pBin fDiv (pV 3) (pC (.int 2)))) (pV 0)) (pCons (pV 0) pNil))) pNil))))))
def f_half_moving : List D → Rs D := runF 4 p_half_moving
/-- part_classes(rows, half) : 0 rows, 1 half, 2 size, 3 place, 4 step, 5 start, 6 _, 7 goal, 8 move, 9 begin, 10 one, 11 other -/
def p_part_classes_v2 : Ev → Fl :=
  (pSeq (pAsg (gTp (gsCons (gTp (gsCons (gN 2) (gsCons (gN 3) (gsCons (gN 4) (gsCons (gN 5) gsNil))))) (gsCons (gTp (gsCons (gN 6) (gsCons (gN 7) (gsCons (gN 8) (gsCons (gN 9) gsNil))))) gsNil))) (pV 0))
  (pSeq (pIfS (pAnd (pB (pBin fEq (pV 4) (pC (.int 0)))) (pB (pBin fEq (pV 8) (pC (.int 0)))))
    (pRet (pIf (pB (pBin fEq (pV 3) (pV 7))) (pLst (pCons (pTup (pCons (pC (.int 0)) (pCons (pC (.int 1)) pNil))) pNil)) (pLst pNil)))
    pNext)
  (pSeq (pIfS (pAnd (pB (pBin fNe (pV 4) (pC (.int 0)))) (pB (pBin fNe (pV 8) (pC (.int 0)))))
    (pSeq (pSet 10 (pFn (arity 4 f_offset_of) [] (pCons (pV 2) (pCons (pV 3) (pCons (pV 4) (pCons (pV 5) pNil))))))
  (pSeq (pSet 11 (pFn (arity 4 f_offset_of) [] (pCons (pV 2) (pCons (pV 7) (pCons (pV 8) (pCons (pV 9) pNil))))))
  (pRet (pIf (pTr (pV 1)) (pFn (arity 3 f_half_moving) [] (pCons (pV 2) (pCons (pV 10) (pCons (pV 11) pNil)))) (pFn (arity 3 f_met_moving) [] (pCons (pV 2) (pCons (pV 10) (pCons (pV 11) pNil))))))))
    pNext)
  (pSeq (pIfS (pTr (pV 1))
    (pRet (pLst pNil))
    pNext)
  (pSeq (pIfS (pB (pBin fNe (pV 4) (pC (.int 0))))
    (pRet (pFn (arity 3 f_met_standing) [] (pCons (pV 2) (pCons (pFn (arity 4 f_offset_of) [] (pCons (pV 2) (pCons (pV 3) (pCons (pV 4) (pCons (pV 5) pNil))))) (pCons (pV 7) pNil)))))
    pNext)
  (pRet (pFn (arity 3 f_met_standing) [] (pCons (pV 2) (pCons (pFn (arity 4 f_offset_of) [] (pCons (pV 2) (pCons (pV 7) (pCons (pV 8) (pCons (pV 9) pNil))))) (pCons (pV 3) pNil))))))))))
def f_part_classes_v2 : List D → Rs D := runF 12 p_part_classes_v2
/-- from_minute(classes, minute) : 0 classes, 1 minute, 2 remainder, 3 modulus -/
def e_from_minute_0 : Ev → Rs D :=
  (pTup (pCons (pBin fAdd (pV 1) (pBin fMod (pBin fSub (pV 2) (pV 1)) (pV 3))) (pCons (pV 3) pNil)))
def p_from_minute : Ev → Fl :=
  (pRet (pCall fSorted (pCons (pLc (pIter (pV 0)) (gTp (gsCons (gN 2) (gsCons (gN 3) gsNil))) pYes e_from_minute_0 [2, 3]) pNil)))
def f_from_minute : List D → Rs D := runF 4 p_from_minute
/-- _law_side(_law_number) : 0 _law_number -/
def p_law_side : Ev → Fl :=
  (pRet (pBin fIx (pLst (pCons (pBin fAdd (pC (.int 1)) (pBin fMod (pCall fInt (pCons (pV 0) pNil)) (pC (.int 6)))) (pCons (pC (.int 4)) (pCons (pC (.int 2)) (pCons (pBin fAdd (pC (.int 1)) (pBin fMod (pCall fInt (pCons (pV 0) pNil)) (pC (.int 3)))) pNil))))) (pBin fMod (pCall fInt (pCons (pBin fDiv (pV 0) (pC (.int 6))) pNil)) (pC (.int 4)))))
def f_law_side : List D → Rs D := runF 1 p_law_side
abbrev c_MOST_BALLS_balls : D := .int 12
abbrev c_MOST_BALLS_crowds : D := .int 6
/-- check_balls(table, balls) : 0 table, 1 balls, 2 number, 3 ball, 4 other -/
def e_check_balls_v2_0 : Ev → Rs D :=
  (pBin fIx (pV 4) (pC (.int 0)))
def l_check_balls_v2_0 : Ev → Fl :=
  (pSeq (pDrop (pFn (arity 2 f_check_ball) [] (pCons (pV 0) (pCons (pV 3) pNil))))
  (pIfS (pB (pBin (fIn2 false) (pBin fIx (pV 3) (pC (.int 0))) (pLc (pIter (pSl fSl (pV 1) pNo (pPart (pV 2)))) (gN 4) pYes e_check_balls_v2_0 [4])))
    (fun ρ => Fl.err "InvalidBall" none ρ)
    pNext))
def p_check_balls_v2 : Ev → Fl :=
  (pSeq (pFor (pEnum2 (pCons (pV 1) pNil)) (gTp (gsCons (gN 2) (gsCons (gN 3) gsNil))) l_check_balls_v2_0)
  (pIfS (pB (pBin fGt (pCall fLen (pCons (pV 1) pNil)) (pC c_MOST_BALLS_balls)))
    (fun ρ => Fl.err "InvalidBall" none ρ)
    pNext))
def f_check_balls_v2 : List D → Rs D := runF 5 p_check_balls_v2
/-- check_crowd(table, balls) : 0 table, 1 balls -/
def p_check_crowd : Ev → Fl :=
  (pSeq (pDrop (pFn (arity 2 f_check_balls_v2) [] (pCons (pV 0) (pCons (pV 1) pNil))))
  (pIfS (pNot (pB (pChain fLe fLe (pC (.int 1)) (pCall fLen (pCons (pV 1) pNil)) (pC c_MOST_BALLS_crowds))))
    (fun ρ => Fl.err "InvalidQuestion" none ρ)
    pNext))
def f_check_crowd : List D → Rs D := runF 2 p_check_crowd
/-- passes(table, ball, point, times) : 0 table, 1 ball, 2 point, 3 times -/
def p_passes : Ev → Fl :=
  (pRet (pFn (arity 2 f_both) [] (pCons (pFn (arity 3 f_at_point) [] (pCons (pV 0) (pCons (pV 1) (pCons (pV 2) pNil)))) (pCons (pV 3) pNil))))
def f_passes : List D → Rs D := runF 4 p_passes
/-- first_pass(table, balls, point, minute) : 0 table, 1 balls, 2 point, 3 minute, 4 sets, 5 found, 6 at, 7 times, 8 first -/
def l_first_pass_0 : Ev → Fl :=
  (pSeq (pSet 8 (pMeth "Times" "next_from" (arity 2 f_Times_next_from) (pV 7) (pCons (pV 3) pNil)))
  (pIfS (pB (pBin fIsNot (pV 8) (pC .non)))
    (pApp 5 (pTup (pCons (pV 8) (pCons (pV 6) pNil))))
    pNext))
def p_first_pass : Ev → Fl :=
  (pSeq (pSet 4 (pFn (arity 4 f_watched) [] (pCons (pV 0) (pCons (pV 1) (pCons (pV 2) (pCons (pLst (pCons (pV 3) pNil)) pNil))))))
  (pSeq (pSetO 5 (pLst pNil))
  (pSeq (pFor (pEnum2 (pCons (pV 4) pNil)) (gTp (gsCons (gN 6) (gsCons (gN 7) gsNil))) l_first_pass_0)
  (pFrz 5 (pSeq (pIfS (pNot (pTr (pV 5)))
    (pRet (pC .non))
    pNext)
  (pSeq (pAsg (gTp (gsCons (gN 8) (gsCons (gN 6) gsNil))) (pCall fMin (pCons (pV 5) pNil)))
  (pRet (pTup (pCons (pV 8) (pCons (pBin fIx (pBin fIx (pV 1) (pV 6)) (pC (.int 0))) pNil))))))))))
def f_first_pass : List D → Rs D := runF 9 p_first_pass
/-- passes_to(table, balls, point, minute) : 0 table, 1 balls, 2 point, 3 minute, 4 sets, 5 ball, 6 times -/
def e_passes_to_0 : Ev → Rs D :=
  (pTup (pCons (pBin fIx (pV 5) (pC (.int 0))) (pCons (pMeth "Times" "number_to" (arity 2 f_Times_number_to) (pV 6) (pCons (pV 3) pNil)) pNil)))
def p_passes_to : Ev → Fl :=
  (pSeq (pSet 4 (pFn (arity 4 f_watched) [] (pCons (pV 0) (pCons (pV 1) (pCons (pV 2) (pCons (pLst (pCons (pV 3) pNil)) pNil))))))
  (pRet (pLc (pZip (pCons (pV 1) (pCons (pV 4) pNil))) (gTp (gsCons (gN 5) (gsCons (gN 6) gsNil))) pYes e_passes_to_0 [5, 6])))
def f_passes_to : List D → Rs D := runF 7 p_passes_to
/-- _law_balls(_law_numbers_here, _law_at, _law_width, _law_height) : 0 _law_numbers_here, 1 _law_at, 2 _law_width, 3 _law_height, 4 _law_balls_here, 5 _law_k -/
def l_law_balls_v2_0 : Ev → Fl :=
  (pApp 4 (pFn (arity 5 f_law_ball_v2) [] (pCons (pV 0) (pCons (pBin fAdd (pBin fAdd (pV 1) (pC (.int 1))) (pBin fMul (pC (.int 5)) (pV 5))) (pCons (pBin fIx (pLst (pCons (pC (.str "red")) (pCons (pC (.str "blue")) (pCons (pC (.str "white")) (pCons (pC (.str "black")) pNil))))) (pV 5)) (pCons (pV 2) (pCons (pV 3) pNil)))))))
def p_law_balls_v2 : Ev → Fl :=
  (pSeq (pSetO 4 (pLst pNil))
  (pSeq (pFor (pRg1 (pCons (pFn (arity 3 f_law_pick) [] (pCons (pV 0) (pCons (pV 1) (pCons (pC (.int 5)) pNil)))) pNil)) (gN 5) l_law_balls_v2_0)
  (pFrz 4 (pRet (pV 4)))))
def f_law_balls_v2 : List D → Rs D := runF 6 p_law_balls_v2
/-- _law_passed(_law_width, _law_height, _law_balls_here, _law_point, _law_most) : 0 _law_width, 1 _law_height, 2 _law_balls_here, 3 _law_point, 4 _law_most, 5 _law_found, 6 _law_ball_here, 7 _law_walk_here, 8 _law_k -/
def e_law_passed_0 : Ev → Rs D :=
  (pBin fAdd (pBin fIx (pV 6) (pC (.int 5))) (pV 8))
def t_law_passed_0 : Ev → Rs Bool :=
  (pB (pBin fEq (pSl fSl (pBin fIx (pV 7) (pV 8)) pNo (pPart (pC (.int 2)))) (pV 3)))
def l_law_passed_0 : Ev → Fl :=
  (pSeq (pSet 7 (pFn (arity 4 f_law_walk_v2) [] (pCons (pV 0) (pCons (pV 1) (pCons (pV 6) (pCons (pV 4) pNil))))))
  (pApp 5 (pLc (pRg1 (pCons (pBin fSub (pBin fAdd (pV 4) (pC (.int 1))) (pBin fIx (pV 6) (pC (.int 5)))) pNil)) (gN 8) t_law_passed_0 e_law_passed_0 [8])))
def p_law_passed : Ev → Fl :=
  (pSeq (pSetO 5 (pLst pNil))
  (pSeq (pFor (pIter (pV 2)) (gN 6) l_law_passed_0)
  (pFrz 5 (pRet (pV 5)))))
def f_law_passed : List D → Rs D := runF 9 p_law_passed
/-- is_clear(table, balls, point, start, end) : 0 table, 1 balls, 2 point, 3 start, 4 end, 5 firsts, 6 times, 7 first -/
def e_is_clear_0 : Ev → Rs D :=
  (pMeth "Times" "next_from" (arity 2 f_Times_next_from) (pV 6) (pCons (pV 3) pNil))
def e_is_clear_1 : Ev → Rs D :=
  (pAndV (pBin fIsNot (pV 7) (pC .non)) (pBin fLe (pV 7) (pV 4)))
def p_is_clear : Ev → Fl :=
  (pSeq (pSet 5 (pLc (pIter (pFn (arity 4 f_watched) [] (pCons (pV 0) (pCons (pV 1) (pCons (pV 2) (pCons (pLst (pCons (pV 3) (pCons (pV 4) pNil))) pNil)))))) (gN 6) pYes e_is_clear_0 [6]))
  (pRet (pNotV (pCall fAny (pCons (pLc (pIter (pV 5)) (gN 7) pYes e_is_clear_1 [7]) pNil)))))
def f_is_clear : List D → Rs D := runF 8 p_is_clear
/-- first_slot(table, balls, point, start, end, length) : 0 table, 1 balls, 2 point, 3 start, 4 end, 5 length, 6 sets, 7 minute, 8 firsts, 9 blocked, 10 times, 11 first -/
def e_first_slot_0 : Ev → Rs D :=
  (pMeth "Times" "next_from" (arity 2 f_Times_next_from) (pV 10) (pCons (pV 7) pNil))
def e_first_slot_1 : Ev → Rs D :=
  (pV 11)
def t_first_slot_0 : Ev → Rs Bool :=
  (pB (pBin fIsNot (pV 11) (pC .non)))
def w_first_slot_0 : Ev → Fl :=
  (pSeq (pSet 8 (pLc (pIter (pV 6)) (gN 10) pYes e_first_slot_0 [10]))
  (pSeq (pSet 9 (pBestD fMinD (pLc (pIter (pV 8)) (gN 11) t_first_slot_0 e_first_slot_1 [11]) (pC .non)))
  (pSeq (pIfS (pOr (pB (pBin fIs (pV 9) (pC .non))) (pB (pBin fGt (pV 9) (pBin fSub (pBin fAdd (pV 7) (pV 5)) (pC (.int 1))))))
    (pRet (pV 7))
    pNext)
  (pSet 7 (pBin fAdd (pV 9) (pC (.int 1)))))))
def wc_first_slot_0 : Ev → Rs Bool :=
  (pB (pBin fLe (pBin fSub (pBin fAdd (pV 7) (pV 5)) (pC (.int 1))) (pV 4)))
def p_first_slot : Ev → Fl :=
  (pSeq (pSet 6 (pFn (arity 4 f_watched) [] (pCons (pV 0) (pCons (pV 1) (pCons (pV 2) (pCons (pLst (pCons (pV 3) (pCons (pV 4) pNil))) pNil))))))
  (pSeq (pIfS (pOr (pB (pBin fLt (pV 5) (pC (.int 1)))) (pB (pBin fGt (pBin fSub (pV 4) (pV 3)) (pC c_MOST_MINUTES))))
    (fun ρ => Fl.err "InvalidQuestion" none ρ)
    pNext)
  (pSeq (pSet 7 (pV 3))
  (pSeq (pWhile (fun ρ => fuelI 4 ρ + 1) wc_first_slot_0 w_first_slot_0)
  (pRet (pC .non))))))
def f_first_slot : List D → Rs D := runF 12 p_first_slot
/-- _law_drawn_times(_law_numbers_here, _law_at) : 0 _law_numbers_here, 1 _law_at, 2 _law_rows, 3 _law_k, 4 _law_modulus, 5 _law_row_here, 6 _law_start, 7 _law_end, 8 _law_other -/
def e_law_drawn_times_v2_0 : Ev → Rs D :=
  (pFn (arity 2 f_law_are_apart) [] (pCons (pV 5) (pCons (pV 8) pNil)))
def l_law_drawn_times_v2_0 : Ev → Fl :=
  (pSeq (pSet 4 (pBin fAdd (pC (.int 1)) (pFn (arity 3 f_law_pick) [] (pCons (pV 0) (pCons (pBin fAdd (pBin fAdd (pV 1) (pC (.int 1))) (pBin fMul (pC (.int 2)) (pV 3))) (pCons (pC (.int 12)) pNil))))))
  (pSeq (pSet 5 (pTup (pCons (pFn (arity 3 f_law_pick) [] (pCons (pV 0) (pCons (pBin fAdd (pBin fAdd (pV 1) (pC (.int 2))) (pBin fMul (pC (.int 2)) (pV 3))) (pCons (pV 4) pNil)))) (pCons (pV 4) pNil))))
  (pIfS (pTr (pCall fAll (pCons (pLc (pIterO (pVo 2)) (gN 8) pYes e_law_drawn_times_v2_0 [8]) pNil)))
    (pApp 2 (pV 5))
    pNext)))
def p_law_drawn_times_v2 : Ev → Fl :=
  (pSeq (pSetO 2 (pLst pNil))
  (pSeq (pFor (pRg1 (pCons (pFn (arity 3 f_law_pick) [] (pCons (pV 0) (pCons (pV 1) (pCons (pC (.int 5)) pNil)))) pNil)) (gN 3) l_law_drawn_times_v2_0)
  (pSeq (pSet 6 (pFn (arity 3 f_law_pick) [] (pCons (pV 0) (pCons (pBin fAdd (pV 1) (pC (.int 11))) (pCons (pC (.int 20)) pNil)))))
  (pSeq (pSet 7 (pC .non))
  (pSeq (pIfS (pB (pBin fEq (pFn (arity 3 f_law_pick) [] (pCons (pV 0) (pCons (pBin fAdd (pV 1) (pC (.int 12))) (pCons (pC (.int 2)) pNil)))) (pC (.int 1))))
    (pSet 7 (pFn (arity 3 f_law_pick) [] (pCons (pV 0) (pCons (pBin fAdd (pV 1) (pC (.int 13))) (pCons (pC (.int 70)) pNil)))))
    pNext)
  (pFrz 2 (pRet (pTup (pCons (pV 6) (pCons (pV 7) (pCons (pV 2) pNil)))))))))))
def f_law_drawn_times_v2 : List D → Rs D := runF 9 p_law_drawn_times_v2
end DL
end
end

section
set_option linter.all false
set_option maxRecDepth 100000
set_option maxHeartbeats 4000000
namespace DL
open PySem PySem.Spec L2 PyProof.Rows
section
variable {X : Cx} {CX : CXT} {k : Nat} {f : Addr} {fd : FuncData} {ps : List Str} {sp : Sp} {dvs : List V} {ds : List Value} {E : L2.St → L2.XK} {x : Str} {p pos : Pos}
theorem pe_callSD0 (F : FnOk X.prog X.w X.K X.mg X.base CX k f fd ps sp) (hr : Room k X.A) (hg : Gl X x) (hm : X.mg x = some (.ref f)) (hk : PySem.W.keepIn X.K (.ref f) = true) (hb : Binds X.K fd ps ds) (hd : Vals dvs ds) (hx : ∀ σ, PassesAt CX X σ (E σ))
    (hdb : (x == ("__debug__" : Str)) = false := by decide) : PE X (.Call (.Name x p) [] [] pos) (tCallSD sp dvs E tNil) := by
  refine ⟨fun pins s σ H Q I h => ?_⟩
  refine wpAny_Call_Name_kw (ld_glob I hg hm ?_ hdb)
  exact PySem.W.callWith_K0 I.kIn hk (run_fnSD (us := []) F hr hb hd (hx σ) I .nil h)
end
section
variable {I : Type} {X : I → Cx} {E : Am} {W : WX} {k : Nat}
theorem xe_call0W {j n : Nat} {f : Addr} {fd : FuncData} {ps : List Str} {fn : List D → Rs D} {dds : List D} {dvs : List V} {ds : List Value} {x : Str} {p pos : Pos} (c : Ctx X E W k)
    (G : ∀ i, FnOk (X i).prog (X i).w (X i).K (X i).mg (X i).base (L2.CX (X i).prog (X i).w) j f fd ps (spF E n fn)) (hj : j ≤ k) (hg : ∀ i, Gl (X i) x) (hm : ∀ i, (X i).mg x = some (.ref f)) (hk : PySem.W.keepIn E.K (.ref f) = true) (hb : Binds E.K fd ps ds) (hd : Vals dvs ds) (hD : ∀ F, RepL E F dds dvs)
    (hdb : (x == ("__debug__" : Str)) = false := by decide) : XE X E W (.Call (.Name x p) [] [] pos) (pFn (arity n fn) dds pNil) := by
  refine ⟨_, fun i => pe_callSD0 ((G i).imp fun vs H Q Ex h => sp_arity h) ((c.room rfl i).mono hj) (hg i) (hm i) (by rw [c.K i]; exact hk) (by rw [c.K i]; exact hb) hd (fun σ => passAt (c.tk i) σ) hdb, ?_⟩
  exact evals_fn (t := tNil) (q := pNil) hD arity_n (fun B F H σ ρ Q s sb r post => ev_ok s post rfl)
end
end DL
end

section
set_option linter.all false
set_option maxRecDepth 100000
set_option maxHeartbeats 4000000
namespace DL
open PySem PySem.Spec L2 PyProof.Rows
/-! ## is of bools -/
def fIsB : D → D → Rs D | .bl a, .bl b => .ok (.bl (decide (a = b))) | _, _ => .no
def fIsNotB : D → D → Rs D | .bl a, .bl b => .ok (.bl (!decide (a = b))) | _, _ => .no
section
variable {I : Type} {X : I → Cx} {E : Am} {W : WX} {k : Nat}
theorem repO_blE {F H : Hp} {b : Bool} {x : V} (h : RepO E F H (.bl b) x) : x = .bl b := by
  rcases h with h | ⟨l, ho, _, _, h⟩
  · exact h
  · exact h.elim
theorem ops_isB : OpS E rIsB fIsB := by
  intro W F H σ dx dy x y Q s h1 h2 post
  cases dx <;> first | exact post.elim | skip
  cases dy <;> first | exact post.elim | skip
  exact ⟨_, _, repO_blE h1, repO_blE h2, ev_ok s post rfl⟩
theorem ops_isNotB : OpS E rNotB fIsNotB := by
  intro W F H σ dx dy x y Q s h1 h2 post
  cases dx <;> first | exact post.elim | skip
  cases dy <;> first | exact post.elim | skip
  exact ⟨_, _, repO_blE h1, repO_blE h2, ev_ok s post rfl⟩
theorem cmp_isB {cm : Bool} (c : CtxB X E W k cm) : CmpR X E .Is fIsB := ⟨_, fun _ => op_isBl, ops_isB⟩
theorem cmp_isNotB {cm : Bool} (c : CtxB X E W k cm) : CmpR X E .IsNot fIsNotB := ⟨_, fun _ => op_notBl, ops_isNotB⟩
end
end DL
end

section
set_option linter.all false
set_option maxRecDepth 100000
set_option maxHeartbeats 4000000
namespace DL
open PySem PySem.Spec L2 PyProof.Rows
/-! ## index in a written tuple of texts -/
def posS : List Str → Str → Option Nat
  | [], _ => none
  | y :: r, z => if y = z then some 0 else (posS r z).map (· + 1)
theorem posS_ok : ∀ {ys : List Str} {z : Str} {j : Nat}, posS ys z = some j → ys[j]? = some z ∧ ∀ m, m < j → ys[m]? ≠ some z
  | [], z, j, h => by cases h
  | y :: r, z, j, h => by
    have h : (if y = z then some 0 else (posS r z).map (· + 1)) = some j := h
    by_cases q : y = z
    · rw [if_pos q] at h; cases h
      exact ⟨by rw [q]; rfl, fun m hm => by omega⟩
    · rw [if_neg q] at h
      obtain ⟨k, h1, h2⟩ := Option.map_eq_some_iff.mp h
      subst h2
      obtain ⟨i1, i2⟩ := posS_ok h1
      refine ⟨i1, fun m hm => ?_⟩
      cases m with
      | zero => intro e; cases e; exact q rfl
      | succ m => exact i2 m (by omega)
def strsD : List D → Option (List Str)
  | [] => some []
  | .str x :: r => (strsD r).map (x :: ·)
  | _ => none
theorem strsD_ok {E : Am} {F : Hp} : ∀ {ds : List D} {ys : List Str} {vs : List V}, strsD ds = some ys → RepL E F ds vs → vs = ys.map V.str
  | [], ys, vs, h, r => by cases h; exact r
  | d :: ds, ys, vs, h, r => by
    obtain ⟨v, us, rfl, h1, h2⟩ := r
    cases d <;> first | (simp [strsD] at h; done) | skip
    rename_i x
    have h : (strsD ds).map (x :: ·) = some ys := h
    obtain ⟨zs, q1, rfl⟩ := Option.map_eq_some_iff.mp h
    rw [strsD_ok q1 h2]
    cases h1
    rfl
def fTIx : D → D → Rs D
  | .tup ds, .str z => (match strsD ds with | some ys => (match posS ys z with | some j => .ok (.int (j : Nat)) | none => .no) | none => .no)
  | _, _ => .no
def tupB (x : Str) (K : PySem.W.Frag) : Bool := match PySem.W.nsIn K mainGlobals x with
  | some (some (.ref a)) => (match K.lookup a with | some ⟨.type c, none, _, _⟩ => decide (c = "tuple") | _ => false)
  | _ => false
structure TupC (mg : Str → Option Value) (E : Am) (x : Str) : Prop where
  ex : ∃ a o, mg x = some (.ref a) ∧ E.K.lookup a = some o ∧ o.cls = .type "tuple" ∧ o.dict = none
theorem tup_ok {E : Am} {h : Heap} {mg : Str → Option Value} {x : Str} (X : E.K.In h) (G : h.Ns mainGlobals mg) (c : tupB x E.K = true) : TupC mg E x := by
  unfold tupB at c
  split at c
  · rename_i a q
    split at c
    · rename_i c' _ _ q2
      exact ⟨a, _, PySem.W.mg_of X G q, q2, congrArg Value.type (of_decide_eq_true c), rfl⟩
    · cases c
  · cases c
def rTIx (K : PySem.W.Frag) : V → List V → Hp → VK → Prop := fun x xs H Q => ∃ p, ∃ ys : List Str, ∃ z j, x = .ref p ∧ xs = [.str z] ∧ SqT K H p (ys.map V.str) ∧ ys[j]? = some z ∧ (∀ m, m < j → ys[m]? ≠ some z) ∧ Q (.int (j : Nat)) H
theorem mt_tix {X : Cx} : MtR X "tuple.index" (rTIx X.K) := mt_tup_index
section
variable {I : Type} {X : I → Cx} {E : Am} {W : WX} {k : Nat}
theorem xe_tindex {x : Str} {ds : List D} {mg : Str → Option Value} {e : Expr} {p : Ev → Rs D} {px apos cpos : Pos} {cm : Bool} (c : CtxB X E W k cm) (h : Con mg E x (.tup ds)) (ht : TupC mg E x) (hm : ∀ i, (X i).mg x = mg x) (hg : ∀ i, Gl (X i) x) (he : XE X E W e p)
    (hd : (x == ("__debug__" : Str)) = false := by decide) (hbase : ∀ j, attributeBase (.Name x px) "index" (X j).env (eval (.Name x px) (X j).env) = eval (.Name x px) (X j).env := by intro _; rfl)
    (hfew : ∀ j, ((backTo cpos (starEach (e :: []) (X j).env)).all (fun x => !x.1) && (backToKw cpos (keywordEach [] (X j).env)).all (fun x => x.1.isSome) && decide ((e :: ([] : List Expr)).length + ([] : List Keyword).length + (if ([] : List Keyword).isEmpty then 0 else 1) < 30)) = true := by intro _; rfl)
    (hline : (apos.endLine == cpos.line) = true := by rfl) (hs : ∀ j, starEach (e :: []) (X j).env = (false, eval e (X j).env) :: starEach [] (X j).env := by intro _; rfl) (hplain : ∀ j, (backTo cpos (starEach [] (X j).env)).any (·.1) = false := by intro _; rfl) :
    XE X E W (.Call (.Attribute (.Name x px) "index" apos) [e] [] cpos) (pBin fTIx (pC (.tup ds)) p) := by
  obtain ⟨u, v, h1, h2, h3⟩ := h.ex
  obtain ⟨a, o, g1, g2, g3, g4⟩ := ht.ex
  obtain ⟨t, t1, t2⟩ := he
  rw [h1] at g1
  cases g1
  have hv : v = .ref a := by
    cases v <;> first | (obtain ⟨_, q⟩ := h2; cases q; done) | (cases h2; done) | skip
    cases h2; rfl
  subst hv
  refine ⟨tBM E.K "tuple" (rTIx E.K) (tC (.ref a)) (tCons t tNil), fun j => by rw [← c.K j]; exact pe_bm PySem.F.plainAttrs_tuple PySem.F.slot_tuple_index PySem.F.type_tuple_index mt_tix (pe_glob (hg j) ((hm j).trans h1) h2 hd) (pa_cons (t1 j) pa_nil (hs j)) (hbase j) (hfew j) hline (hs j) (hplain j), fun B F H σ ρ Q s sb r post => ?_⟩
  refine ⟨.inr (.inl ⟨rfl, o, g2, g3, g4⟩), ?_⟩
  show t σ H _
  refine Evals.seq t2 s sb r post fun F1 H1 y w e1 x1 sb1 r1 g post1 => ?_
  cases y <;> first | exact post1.elim | skip
  rename_i z
  obtain ⟨a', vs, q0, q1, q2⟩ := h3 F1
  cases q0
  have post1 : Post E W σ F1 H1 (GS E H) Q (match strsD ds with | some ys => (match posS ys z with | some j => .ok (.int (j : Nat)) | none => .no) | none => .no) := post1
  cases es : strsD ds with
  | none => rw [es] at post1; exact post1.elim
  | some ys =>
    rw [es] at post1
    simp only at post1
    cases ep : posS ys z with
    | none => rw [ep] at post1; exact post1.elim
    | some j =>
      rw [ep] at post1
      have ew : w = .str z := g
      subst ew
      obtain ⟨p1, p2⟩ := posS_ok ep
      have evs := strsD_ok es q2
      subst evs
      exact ⟨a, ys, z, j, rfl, rfl, sqT_mono x1.fh q1, p1, p2, post1 F1 H1 (.int (j : Nat)) (Ext.refl x1.fh) rfl⟩
end
end DL
end

section
set_option linter.all false
set_option maxRecDepth 100000
set_option maxHeartbeats 4000000
namespace DL
open PySem PySem.Spec L2 PyProof.Rows
/-! ## a, b, .. = a list -/
variable {I : Type} {X : I → Cx} {E : Am} {W : WX} {k : Nat}
def gLp (q : List D → Ev → Option Ev) : D → Ev → Option Ev := fun d ρ => match d with | .lst ds => q ds ρ | _ => none
theorem xg_unl {es : List Expr} {kk : Nat} {pos : Pos} {vs : List Nat} {q : List D → Ev → Option Ev} {n : Nat} (c : Ctx X E W k) (h : XGs X E es vs q) (hl : ∀ ds ρ ρ', q ds ρ = some ρ' → ds.length = n)
    (hn : ∀ i, (assignEach es (X i).env).length = n := by intro _; rfl) (hst : ∀ i, (assignEach es (X i).env).findIdx? (·.1) = none := by intro _; rfl) : XG X E (.Tuple es kk pos) vs (gLp q) := by
  obtain ⟨g, g1, g2⟩ := h
  refine ⟨gUnl E.K n g, fun i => by rw [← c.K i]; exact pg_unl (c.calm rfl i) (g1 i) (hn i) (hst i), fun B F H σ ρ d v Q ρ' s r rep e q => ?_⟩
  cases d <;> first | (cases e; done) | skip
  rename_i ds
  obtain ⟨a, us, rfl, h2, h3⟩ := rep
  have hlen := hl ds ρ ρ' e
  exact ⟨a, us, rfl, .inl (.inl (s _ _ h2)), by rw [← h3.len]; exact hlen, g2 B F H σ ρ ds us Q ρ' s r h3 e q⟩
end DL
end

section
set_option linter.all false
set_option maxRecDepth 100000
set_option maxHeartbeats 4000000
namespace DL
open PySem PySem.Spec L2 PyProof.Rows
/-! ## a written list, so many times -/
variable {I : Type} {X : I → Cx} {E : Am} {W : WX} {k : Nat} {cm : Bool} {a b : Expr} {pos : Pos} {pa pb : Ev → Rs D}
def fRep : D → D → Rs D
  | .lst x, .int n => if -(2 ^ 63) ≤ n ∧ n < 2 ^ 63 ∧ x.length * n.toNat ≤ sizeLine then .ok (.lst (List.replicate n.toNat x).flatten) else .no
  | _, _ => .no
theorem repL_times {F : Hp} {ds : List D} {vs : List V} (h : RepL E F ds vs) : ∀ n : Nat, RepL E F (List.replicate n ds).flatten (List.replicate n vs).flatten
  | 0 => rfl
  | n + 1 => by
    rw [List.replicate_succ, List.replicate_succ, List.flatten_cons, List.flatten_cons]
    exact h.append (repL_times h n)
theorem ops_rep : OpS E rRep fRep := by
  intro W F H σ dx dy x y Q s h1 h2 post
  unfold fRep at post
  split at post
  · rename_i i n
    by_cases c : -(2 ^ 63) ≤ n ∧ n < 2 ^ 63 ∧ i.length * n.toNat ≤ sizeLine
    · rw [if_pos c] at post
      obtain ⟨a, vs, e1, q1, r1⟩ := repO_lstH s h1
      refine ⟨a, n, vs, e1, repO_int h2, q1, c.1, c.2.1, by rw [← r1.len]; exact c.2.2, fun p hp => ?_⟩
      exact post _ _ _ (Ext.new s hp) (gs_newL s hp (repL_times r1 _))
    · rw [if_neg c] at post; exact post.elim
  · exact post.elim
theorem xe_rep (c : CtxB X E W k cm) (ha : XL X E W a pa) (hb : XL X E W b pb) : XE X E W (.BinOp a .Mult b pos) (pBin fRep pa pb) := xe_bin (fun i => op_rep) ops_rep ha hb
end DL
end

section
set_option linter.all false
set_option maxRecDepth 100000
set_option maxHeartbeats 4000000
namespace DL
open PySem PySem.Spec L2 PyProof.Rows
/-! ## list + list as a new own list -/
variable {I : Type} {X : I → Cx} {E : Am} {W : WX} {k : Nat} {cm : Bool} {a b : Expr} {pos : Pos} {pa pb : Ev → Rs D}
def fAddL : D → D → Rs D
  | .lst x, .lst y => if x.length + y.length ≤ sizeLine then .ok (.lst (x ++ y)) else .no
  | _, _ => .no
theorem xn_add (c : CtxB X E W k cm) (ha : XL X E W a pa) (hb : XL X E W b pb) : XN X E W (.BinOp a .Add b pos) (pBin fAddL pa pb) := by
  obtain ⟨ta, a1, a2⟩ := ha
  obtain ⟨tb, b1, b2⟩ := hb
  refine ⟨tOp rCat ta tb, fun i => pe_op op_cat (a1 i) (b1 i), ?_⟩
  intro B F H σ ρ Q s sb r0 post
  show ta σ H _
  refine Evals.seq a2 s sb r0 post fun F1 H1 dx x e1 x1 sb1 r1 g1 post1 => ?_
  show tb σ H1 _
  refine Evals.seq b2 x1.fh sb1 r1 post1 fun F2 H2 dy y e2 x2 sb2 r2 g2 post2 => ?_
  unfold fAddL at post2
  split at post2
  · rename_i i j
    by_cases c : i.length + j.length ≤ sizeLine
    · rw [if_pos c] at post2
      obtain ⟨a, vs, e1, q1, r1⟩ := repO_lstH x2.fh (g1.mono x2)
      obtain ⟨b, us, e2, q2, r2⟩ := repO_lstH x2.fh g2
      refine ⟨a, b, vs, us, e1, e2, q1, q2, by rw [← r1.len, ← r2.len]; exact c, fun p hp => ?_⟩
      exact post2 _ _ _ (Ext.newH x2.fh hp) (gn_newL x2.fh (x1.trans x2).h hp (r1.append r2))
    · rw [if_neg c] at post2; exact post2.elim
  · exact post2.elim
end DL
end

section
set_option linter.all false
set_option maxRecDepth 100000
set_option maxHeartbeats 4000000
namespace DL
open PySem PySem.Spec L2 PyProof.Rows
/-! ## own[i] = value -/
variable {I : Type} {X : I → Cx} {E : Am} {W : WX} {k : Nat} {cm : Bool}
def pLPut (i : Nat) (pv : Ev → Rs D) (pk : Ev → Rs D) : Ev → Fl := fun ρ => match ρ[i]? with
  | some (.own (.lst ds)) => pWith pv (fun d => pWith pk fun kd ρ => match kd with
    | .int n => (match ixN ds.length n with | some j => .nx (ρ.set i (.own (.lst (ds.set j d)))) | none => .no)
    | _ => .no) ρ
  | _ => .no
theorem repL_put {F : Hp} {d : D} {v : V} (hv : Rep E F d v) : ∀ {ds : List D} {vs : List V} (j : Nat), RepL E F ds vs → RepL E F (ds.set j d) (vs.set j v)
  | [], vs, j, h => by cases h; exact rfl
  | e :: ds, vs, 0, h => by
    obtain ⟨u, r, rfl, h1, h2⟩ := h
    exact ⟨v, r, rfl, hv, h2⟩
  | e :: ds, vs, j + 1, h => by
    obtain ⟨u, r, rfl, h1, h2⟩ := h
    exact ⟨u, r.set j v, rfl, h1, repL_put hv j h2⟩
theorem xs_lput {i : Nat} {o e value : Expr} {pv : Ev → Rs D} {pk : Ev → Rs D} {pos' pos : Pos} (ho : ∀ j, PE (X j) o (tVar i)) (hv : XE X E W value pv) (hk : XE X E W e pk)
    (hs : ∀ j, swapsWithSole [.Subscript o e pos'] value pos.line (X j).env = pure false := by intro _; rfl) (hw : ∀ j, swappedStores [.Subscript o e pos'] value (X j).env = pure none := by intro _; rfl)
    (h1 : ∀ j, (assignEach [.Subscript o e pos'] (X j).env).map (·.2) = [assign (.Subscript o e pos') (X j).env] := by intro _; rfl)
    (ha : ∀ j v, assign (.Subscript o e pos') (X j).env v = (do
      let ov ← holding [v] (eval o (X j).env)
      let iv ← holding [v, ov] (eval e (X j).env)
      standAt pos'
      holding [v, ov, iv] (setItem ov iv v)
      release [v, ov, iv] []) := by intro _ _; rfl) : XS X E W (.Assign [.Subscript o e pos'] value pos) (pLPut i pv pk) := by
  obtain ⟨tv, v1, v2⟩ := hv
  obtain ⟨tk, k1, k2⟩ := hk
  refine ⟨_, fun j => ps_asg (v1 j) (pg_sub (ho j) (k1 j) set_list (ha j)) (hs j) (hw j) (h1 j), fun F0 B F H σ ρ Dn x r post => ?_⟩
  unfold pLPut at post
  split at post
  · rename_i ds q
    show tv σ H _
    refine Does.eval v2 x r post fun F1 H1 d v x1 x2 r2 g post1 => ?_
    obtain ⟨l, ho', s1, s2, s3, s4, vs, rfl, s6⟩ := r2.own i _ q
    refine ⟨_, s1, ?_⟩
    show tk σ H1 _
    refine Does.eval k2 x2 r2 post1 fun F2 H2 kd kv x3 x4 r3 g2 post2 => ?_
    split at post2
    · rename_i n
      split at post2
      · rename_i j hj
        have g2 : kv = .int n := g2
        have hl2 : H2 l = some (.lst vs) := x3.h _ _ s2
        have hf : F2 l = none := by rw [x3.keep s2 (fun _ z => by cases z)]; exact s3
        refine ⟨l, vs, n, j, rfl, g2, hl2, by rw [← s6.len]; exact hj, ?_⟩
        exact post2 _ _ σ (x4.wr hf s4) (r3.write q s1 hf s4 ⟨_, rfl, repL_put (Rep.mono x3.f _ _ g) j (RepL.mono x3.f _ _ s6)⟩)
      · exact post2.elim
    · exact post2.elim
  · exact post.elim
end DL
end

section
set_option linter.all false
set_option maxRecDepth 100000
set_option maxHeartbeats 4000000
namespace DL
open PySem PySem.Spec L2 PyProof.Rows
/-! ## str of an int -/
variable {I : Type} {X : I → Cx} {E : Am} {W : WX} {k : Nat} {mg : Str → Option Value} {e : Expr} {q : Ev → Rs (List D)} {p pos : Pos}
def fStr : List D → Rs D | [.int i] => if i.natAbs.log2 < 1920 then .ok (.str (toString i)) else .no | _ => .no
theorem cals_str : CalS E (GS E) (fun xs H Q => ∃ i, xs = [.int i] ∧ i.natAbs.log2 < 1920 ∧ Q (.str (toString i)) H) fStr := by
  intro W F H σ ds vs Q s h post
  unfold fStr at post
  split at post
  · rename_i i
    by_cases c : i.natAbs.log2 < 1920
    · rw [if_pos c] at post
      obtain ⟨v, rfl, h1⟩ := rol1 h
      cases repO_int h1
      exact ⟨_, rfl, c, ev_ok s post rfl⟩
    · rw [if_neg c] at post; exact post.elim
  · exact post.elim
theorem ye_str {cm : Bool} (c : CtxB X E W k cm) (hn : mg "str" = none) (hm : ∀ i, (X i).mg "str" = mg "str") (hg : ∀ i, Gl (X i) "str") (ha : XAL X E W [e] q)
    (he : ∀ i, starEach [e] (X i).env = (false, eval e (X i).env) :: starEach [] (X i).env := by intro _; rfl) (hpl : ∀ i, (backTo pos (starEach [] (X i).env)).any (·.1) = false := by intro _; rfl) : XE X E W (.Call (.Name "str" p) [e] [] pos) (pCall fStr q) :=
  xe_callTy (fun i => call_str_int) cals_str hg (fun i => (hm i).trans hn) (by decide +kernel) ha (he := he) (hpl := hpl)
end DL
end

section
set_option linter.all false
set_option maxRecDepth 100000
noncomputable section
namespace DL
open PySem L2
/-- _law_bad_name(_law_number, _law_name_here) : 0 _law_number, 1 _law_name_here, 2 _law_chars, 3 _law_place -/
def p_law_bad_name : Ev → Fl :=
  (pSeq (pIfS (pB (pBin fEq (pBin fMod (pCall fInt (pCons (pV 0) pNil)) (pC (.int 4))) (pC (.int 0))))
    (pRet (pC (.str "")))
    pNext)
  (pSeq (pIfS (pB (pBin fEq (pBin fMod (pCall fInt (pCons (pV 0) pNil)) (pC (.int 4))) (pC (.int 1))))
    (pRet (pSl fSl (pBin fAdd (pV 1) (pC (.str "abcdefghijklm"))) pNo (pPart (pC (.int 13)))))
    pNext)
  (pSeq (pIfS (pB (pBin fEq (pBin fMod (pCall fInt (pCons (pV 0) pNil)) (pC (.int 4))) (pC (.int 2))))
    (pRet (pBin fAdd (pBin fIx (pC (.str "0123456789")) (pBin fMod (pBin fDiv (pCall fInt (pCons (pV 0) pNil)) (pC (.int 4))) (pC (.int 10)))) (pSl fSl (pV 1) (pPart (pC (.int 1))) pNo)))
    pNext)
  (pSeq (pSet 2 (pC (.str " !\"#$&'()*+,-./:;<=>?@ABCDEFGHIJKLMNOPQRSTUVWXYZ[\\]^_`{|}~")))
  (pSeq (pSet 3 (pBin fMod (pBin fDiv (pCall fInt (pCons (pV 0) pNil)) (pC (.int 300))) (pCall fLen (pCons (pV 1) pNil))))
  (pRet (pBin fAdd (pBin fAdd (pSl fSl (pV 1) pNo (pPart (pV 3))) (pBin fIx (pV 2) (pBin fMod (pBin fDiv (pCall fInt (pCons (pV 0) pNil)) (pC (.int 4))) (pCall fLen (pCons (pV 2) pNil))))) (pSl fSl (pV 1) (pPart (pBin fAdd (pV 3) (pC (.int 1)))) pNo))))))))
def f_law_bad_name : List D → Rs D := runF 4 p_law_bad_name
/-- _law_checked(_law_table, _law_given, _law_many) : 0 _law_table, 1 _law_given, 2 _law_many, 3 e -/
def y_law_checked_0 : Ev → Fl :=
  (pSeq (pIfS (pTr (pV 2))
    (pRet (pBin fIs (pFn (arity 2 f_check_balls) [] (pCons (pV 0) (pCons (pV 1) pNil))) (pC .non)))
    pNext)
  (pRet (pBin fIs (pFn (arity 2 f_check_ball) [] (pCons (pV 0) (pCons (pV 1) pNil))) (pC .non))))
def h_law_checked_0 : Addr → Ev → Fl :=
  (fun a => (pRet (pBin fIx (pLst (pCons (pC (.str "odd")) (pCons (pC (.str "invalid")) pNil))) (pCall fInt (pCons (pAndV (pIsE 3 a true) (pAndV (pIsE 3 a true) (pNotV (pIsE 3 a false)))) pNil)))))
def p_law_checked : Ev → Fl :=
  (pTryAs (fun C => List.lookup C [("CushionedError", false), ("InvalidTable", false), ("InvalidBall", true)]) 3 y_law_checked_0 (qsel [("InvalidBall", h_law_checked_0)]))
def f_law_checked : List D → Rs D := runF 4 p_law_checked
/-- _law_spoilt(_law_table, _law_ball, _law_choice, _law_number) : 0 _law_table, 1 _law_ball, 2 _law_choice, 3 _law_number, 4 _law_name_here, 5 _law_x, 6 _law_y, 7 _law_dx, 8 _law_dy, 9 _law_minute -/
def p_law_spoilt : Ev → Fl :=
  (pSeq (pAsg (gTp (gsCons (gN 4) (gsCons (gN 5) (gsCons (gN 6) (gsCons (gN 7) (gsCons (gN 8) (gsCons (gN 9) gsNil))))))) (pV 1))
  (pSeq (pIfS (pB (pBin fEq (pV 2) (pC (.int 0))))
    (pRet (pBin fIx (pLst (pCons (pSl fSl (pV 1) pNo (pPart (pC (.int 5)))) (pCons (pBin fAdd (pV 1) (pTup (pCons (pC (.int 0)) pNil))) (pCons (pSl fSl (pV 1) pNo (pPart (pC (.int 1)))) (pCons (pTup pNil) pNil))))) (pBin fMod (pV 3) (pC (.int 4)))))
    pNext)
  (pSeq (pIfS (pB (pBin fEq (pV 2) (pC (.int 1))))
    (pRet (pTup (pCons (pFn (arity 2 f_law_bad_name) [] (pCons (pV 3) (pCons (pV 4) pNil))) (pCons (pV 5) (pCons (pV 6) (pCons (pV 7) (pCons (pV 8) (pCons (pV 9) pNil))))))))
    pNext)
  (pSeq (pIfS (pB (pBin fEq (pV 2) (pC (.int 2))))
    (pRet (pTup (pCons (pV 4) (pCons (pBin fIx (pLst (pCons (pUn fNeg (pC (.int 1))) (pCons (pBin fAdd (pUn (fFld "Table" "width") (pV 0)) (pC (.int 1))) (pCons (pBin fSub (pUn fNeg (pC (.int 1))) (pV 3)) (pCons (pBin fAdd (pBin fAdd (pUn (fFld "Table" "width") (pV 0)) (pC (.int 1))) (pV 3)) pNil))))) (pBin fMod (pV 3) (pC (.int 4)))) (pCons (pV 6) (pCons (pV 7) (pCons (pV 8) (pCons (pV 9) pNil))))))))
    pNext)
  (pSeq (pIfS (pB (pBin fEq (pV 2) (pC (.int 3))))
    (pRet (pTup (pCons (pV 4) (pCons (pV 5) (pCons (pBin fIx (pLst (pCons (pUn fNeg (pC (.int 1))) (pCons (pBin fAdd (pUn (fFld "Table" "height") (pV 0)) (pC (.int 1))) (pCons (pBin fSub (pUn fNeg (pC (.int 1))) (pV 3)) (pCons (pBin fAdd (pBin fAdd (pUn (fFld "Table" "height") (pV 0)) (pC (.int 1))) (pV 3)) pNil))))) (pBin fMod (pV 3) (pC (.int 4)))) (pCons (pV 7) (pCons (pV 8) (pCons (pV 9) pNil))))))))
    pNext)
  (pSeq (pIfS (pB (pBin fEq (pV 2) (pC (.int 4))))
    (pRet (pBin fIx (pLst (pCons (pTup (pCons (pV 4) (pCons (pV 5) (pCons (pV 6) (pCons (pC (.int 0)) (pCons (pC (.int 0)) (pCons (pV 9) pNil))))))) (pCons (pTup (pCons (pV 4) (pCons (pV 5) (pCons (pV 6) (pCons (pC (.int 2)) (pCons (pV 8) (pCons (pV 9) pNil))))))) (pCons (pTup (pCons (pV 4) (pCons (pV 5) (pCons (pV 6) (pCons (pUn fNeg (pC (.int 2))) (pCons (pV 8) (pCons (pV 9) pNil))))))) (pCons (pTup (pCons (pV 4) (pCons (pV 5) (pCons (pV 6) (pCons (pV 7) (pCons (pC (.int 2)) (pCons (pV 9) pNil))))))) pNil))))) (pBin fMod (pV 3) (pC (.int 4)))))
    pNext)
  (pSeq (pIfS (pB (pBin fEq (pV 2) (pC (.int 5))))
    (pRet (pBin fIx (pLst (pCons (pTup (pCons (pV 4) (pCons (pV 5) (pCons (pV 6) (pCons (pV 7) (pCons (pUn fNeg (pC (.int 2))) (pCons (pV 9) pNil))))))) (pCons (pTup (pCons (pV 4) (pCons (pV 5) (pCons (pV 6) (pCons (pV 7) (pCons (pBin fAdd (pBin fAdd (pC (.int 1)) (pBin fMod (pV 3) (pC (.int 7)))) (pC (.int 1))) (pCons (pV 9) pNil))))))) pNil))) (pBin fMod (pV 3) (pC (.int 2)))))
    pNext)
  (pRet (pTup (pCons (pV 4) (pCons (pV 5) (pCons (pV 6) (pCons (pV 7) (pCons (pV 8) (pCons (pBin fIx (pLst (pCons (pUn fNeg (pC (.int 1))) (pCons (pBin fAdd (pBin fPow (pC (.int 10)) (pC (.int 30))) (pC (.int 1))) (pCons (pBin fSub (pUn fNeg (pC (.int 1))) (pV 3)) (pCons (pBin fAdd (pBin fAdd (pBin fPow (pC (.int 10)) (pC (.int 30))) (pC (.int 1))) (pV 3)) pNil))))) (pBin fMod (pV 3) (pC (.int 4)))) pNil)))))))))))))))
def f_law_spoilt : List D → Rs D := runF 10 p_law_spoilt
/-- law(_law_script) : 0 _law_script, 1 _law_numbers_here, 2 _law_parts_here, 3 _law_table, 4 _law_balls_here, 5 _law_ball, 6 _law_first, 7 _law_number, 8 _law_bad, 9 _law_kept, 10 _law_at, 11 _law_double, 12 _law_names, 13 _law_k, 14 _law_name_here -/
def l_law_0 : Ev → Fl :=
  (pIfS (pOr (pB (pBin fIsNotB (pFn (arity 2 f_is_ball) [] (pCons (pV 3) (pCons (pV 5) pNil))) (pC (.bl true)))) (pB (pBin fIsNotB (pFn (arity 3 f_law_checked) [] (pCons (pV 3) (pCons (pV 5) (pCons (pC (.bl false)) pNil)))) (pC (.bl true)))))
    (pRet (pC (.bl false)))
    pNext)
def e_law_0 : Ev → Rs D :=
  (pV 5)
def t_law_0 : Ev → Rs Bool :=
  (pB (pBin fNe (pBin fIx (pV 5) (pC (.int 0))) (pBin fIx (pV 6) (pC (.int 0)))))
def e_law_1 : Ev → Rs D :=
  (pBin fAdd (pBin fAdd (pC (.str "q")) (pCall fStr (pCons (pV 13) pNil))) (pC (.str "q")))
def e_law_2 : Ev → Rs D :=
  (pBin fAdd (pTup (pCons (pV 14) pNil)) (pSl fSl (pV 6) (pPart (pC (.int 1))) pNo))
def e_law_3 : Ev → Rs D :=
  (pBin fAdd (pTup (pCons (pV 14) pNil)) (pSl fSl (pV 6) (pPart (pC (.int 1))) pNo))
def q14_law_0 : Ev → Fl :=
  (pSeq (pIfS (pB (pBin fIsNotB (pFn (arity 3 f_law_checked) [] (pCons (pV 3) (pCons (pLst (pCons (pBin fAdd (pTup (pCons (pC (.str "qa")) pNil)) (pSl fSl (pV 6) (pPart (pC (.int 1))) pNo)) (pCons (pBin fAdd (pTup (pCons (pC (.str "qab")) pNil)) (pSl fSl (pV 6) (pPart (pC (.int 1))) pNo)) (pCons (pBin fAdd (pTup (pCons (pC (.str "q")) pNil)) (pSl fSl (pV 6) (pPart (pC (.int 1))) pNo)) pNil)))) (pCons (pC (.bl true)) pNil)))) (pC (.bl true))))
    (pRet (pC (.bl false)))
    pNext)
  (pSeq (pSet 12 (pLc (pRg1 (pCons (pC (.int 13)) pNil)) (gN 13) pYes e_law_1 [13]))
  (pSeq (pIfS (pB (pBin fNe (pFn (arity 3 f_law_checked) [] (pCons (pV 3) (pCons (pLc (pIter (pV 12)) (gN 14) pYes e_law_2 [14]) (pCons (pC (.bl true)) pNil)))) (pC (.str "invalid"))))
    (pRet (pC (.bl false)))
    pNext)
  (pRet (pBin fIsB (pFn (arity 3 f_law_checked) [] (pCons (pV 3) (pCons (pLc (pIter (pSl fSl (pV 12) pNo (pPart (pC (.int 12))))) (gN 14) pYes e_law_3 [14]) (pCons (pC (.bl true)) pNil)))) (pC (.bl true)))))))
def q10_law_0 : Ev → Fl :=
  (pSeq (pSet 9 (pLc (pIter (pSl fSl (pV 4) pNo (pPart (pC (.int 11))))) (gN 5) t_law_0 e_law_0 [5]))
  (pSeq (pSet 10 (pBin fMod (pCall fInt (pCons (pBin fIx (pV 1) (pC (.int 272))) pNil)) (pBin fAdd (pCall fLen (pCons (pV 9) pNil)) (pC (.int 1)))))
  (pSeq (pIfS (pB (pBin fNe (pFn (arity 3 f_law_checked) [] (pCons (pV 3) (pCons (pBin fAdd (pBin fAdd (pSl fSl (pV 9) pNo (pPart (pV 10))) (pLst (pCons (pV 8) pNil))) (pSl fSl (pV 9) (pPart (pV 10)) pNo)) (pCons (pC (.bl true)) pNil)))) (pC (.str "invalid"))))
    (pRet (pC (.bl false)))
    pNext)
  (pSeq (pIfS (pB (pBin fGt (pCall fLen (pCons (pV 9) pNil)) (pC (.int 0))))
    (pSeq (pSet 11 (pBin fAdd (pTup (pCons (pBin fIx (pBin fIx (pV 9) (pBin fMod (pV 7) (pCall fLen (pCons (pV 9) pNil)))) (pC (.int 0))) pNil)) (pSl fSl (pV 6) (pPart (pC (.int 1))) pNo)))
  (pIfS (pB (pBin fNe (pFn (arity 3 f_law_checked) [] (pCons (pV 3) (pCons (pBin fAdd (pBin fAdd (pSl fSl (pV 9) pNo (pPart (pV 10))) (pLst (pCons (pV 11) pNil))) (pSl fSl (pV 9) (pPart (pV 10)) pNo)) (pCons (pC (.bl true)) pNil)))) (pC (.str "invalid"))))
    (pRet (pC (.bl false)))
    pNext))
    pNext)
  q14_law_0))))
def q6_law_0 : Ev → Fl :=
  (pSeq (pSet 6 (pBin fIx (pFn (arity 5 f_law_balls) [] (pCons (pV 1) (pCons (pC (.int 260)) (pCons (pBin fIx (pV 2) (pC (.int 0))) (pCons (pBin fIx (pV 2) (pC (.int 1))) (pCons (pC (.int 1)) pNil)))))) (pC (.int 0))))
  (pSeq (pSet 7 (pCall fInt (pCons (pBin fIx (pV 1) (pC (.int 270))) pNil)))
  (pSeq (pSet 8 (pFn (arity 4 f_law_spoilt) [] (pCons (pV 3) (pCons (pV 6) (pCons (pBin fMod (pCall fInt (pCons (pBin fIx (pV 1) (pC (.int 271))) pNil)) (pC (.int 7))) (pCons (pV 7) pNil))))))
  (pSeq (pIfS (pOr (pB (pBin fIsNotB (pFn (arity 2 f_is_ball) [] (pCons (pV 3) (pCons (pV 8) pNil))) (pC (.bl false)))) (pB (pBin fNe (pFn (arity 3 f_law_checked) [] (pCons (pV 3) (pCons (pV 8) (pCons (pC (.bl false)) pNil)))) (pC (.str "invalid")))))
    (pRet (pC (.bl false)))
    pNext)
  q10_law_0))))
def p_law : Ev → Fl :=
  (pSeq (pSet 1 (pFn (arity 2 f_law_numbers) [] (pCons (pV 0) (pCons (pC (.int 300)) pNil))))
  (pSeq (pSet 2 (pFn (arity 1 f_law_parts) [] (pCons (pV 1) pNil)))
  (pSeq (pSet 3 (pFn (arity 1 f_law_made) [] (pCons (pV 2) pNil)))
  (pSeq (pSet 4 (pFn (arity 5 f_law_balls) [] (pCons (pV 1) (pCons (pC (.int 150)) (pCons (pBin fIx (pV 2) (pC (.int 0))) (pCons (pBin fIx (pV 2) (pC (.int 1))) (pCons (pFn (arity 2 f_law_count) [] (pCons (pBin fIx (pV 1) (pC (.int 149))) (pCons (pC (.int 12)) pNil))) pNil)))))))
  (pSeq (pIfS (pB (pBin fIsNotB (pFn (arity 3 f_law_checked) [] (pCons (pV 3) (pCons (pV 4) (pCons (pC (.bl true)) pNil)))) (pC (.bl true))))
    (pRet (pC (.bl false)))
    pNext)
  (pSeq (pFor (pIter (pV 4)) (gN 5) l_law_0)
  q6_law_0))))))
def f_law : List D → Rs D := runF 15 p_law
end DL
end
end

section
set_option linter.all false
set_option maxRecDepth 100000
set_option maxHeartbeats 4000000
set_option exponentiation.threshold 2000
namespace DL
open PySem L2
/-! ## computing with the plain functions -/
theorem log2_lt {n : Nat} {k : Nat} (h : n < 2 ^ k) (hk : 0 < k) : n.log2 < k := PySem.Flt.log2_lt_of hk h
@[simp] theorem fMod_ok {i j : Int} (h : 0 < j) : fMod (.int i) (.int j) = .ok (.int (i % j)) := by
  show (if decide (0 < j) then Rs.ok (D.int (i % j)) else .no) = _
  rw [decide_eq_true h]; rfl
@[simp] theorem fDiv_ok {i j : Int} (h : 0 < j) (h2 : j < 10 ^ 200) : fDiv (.int i) (.int j) = .ok (.int (i / j)) := by
  have hl : j.natAbs.log2 < 9000 := by
    have e : (10 : Int) ^ 200 ≤ 2 ^ 1000 := by decide
    have h3 : j.natAbs < 2 ^ 1000 := by
      have e2 : ((2 : Int) ^ 1000) = ((2 ^ 1000 : Nat) : Int) := by norm_cast
      omega
    exact Nat.lt_trans (log2_lt h3 (by decide)) (by decide)
  show (if divOk i j then Rs.ok (D.int (i / j)) else .no) = _
  unfold divOk
  rw [decide_eq_true h, decide_eq_true hl]; rfl
theorem fMul_l {i j : Int} (h : i.natAbs < 2 ^ 64) : fMul (.int i) (.int j) = .ok (.int (i * j)) := by
  show (if mulOk i j then Rs.ok (D.int (i * j)) else .no) = _
  unfold mulOk
  rw [decide_eq_true h]; rfl
theorem fMul_r {i j : Int} (h : j.natAbs < 2 ^ 64) : fMul (.int i) (.int j) = .ok (.int (i * j)) := by
  show (if mulOk i j then Rs.ok (D.int (i * j)) else .no) = _
  unfold mulOk
  rw [decide_eq_true h, Bool.or_true]; rfl
theorem fMul_w {i j : Int} (h : i.natAbs < 10 ^ 300) (h2 : j.natAbs < 10 ^ 300) : fMul (.int i) (.int j) = .ok (.int (i * j)) := by
  have e : (10 : Nat) ^ 300 ≤ 2 ^ 1000 := by decide
  have h3 := log2_lt (Nat.lt_of_lt_of_le h e) (by decide)
  have h4 := log2_lt (Nat.lt_of_lt_of_le h2 e) (by decide)
  show (if mulOk i j then Rs.ok (D.int (i * j)) else .no) = _
  unfold mulOk
  have h5 : i.natAbs.log2 + j.natAbs.log2 < 1000000 := by omega
  rw [decide_eq_true h5, Bool.or_true]; rfl
@[simp] theorem fAdd_int {i j : Int} : fAdd (.int i) (.int j) = .ok (.int (i + j)) := rfl
@[simp] theorem fSub_int {i j : Int} : fSub (.int i) (.int j) = .ok (.int (i - j)) := rfl
@[simp] theorem fLt_int {i j : Int} : fLt (.int i) (.int j) = .ok (.bl (decide (i < j))) := rfl
@[simp] theorem fLe_int {i j : Int} : fLe (.int i) (.int j) = .ok (.bl (decide (i ≤ j))) := rfl
@[simp] theorem fGt_int {i j : Int} : fGt (.int i) (.int j) = .ok (.bl (decide (j < i))) := rfl
@[simp] theorem fGe_int {i j : Int} : fGe (.int i) (.int j) = .ok (.bl (decide (j ≤ i))) := rfl
@[simp] theorem fEq_int {i j : Int} : fEq (.int i) (.int j) = .ok (.bl (decide (i = j))) := by
  show Rs.ok (D.bl (i == j)) = _
  rfl
@[simp] theorem fNe_int {i j : Int} : fNe (.int i) (.int j) = .ok (.bl (!decide (i = j))) := by
  show Rs.ok (D.bl (!(i == j))) = _
  rfl
@[simp] theorem fEq_bl {i j : Bool} : fEq (.bl i) (.bl j) = .ok (.bl (i == j)) := rfl
@[simp] theorem fNe_bl {i j : Bool} : fNe (.bl i) (.bl j) = .ok (.bl (!(i == j))) := rfl
@[simp] theorem fNeg_int {i : Int} : fNeg (.int i) = .ok (.int (-i)) := rfl
@[simp] theorem fAbs_int {i : Int} : fAbs [.int i] = .ok (.int (if i < 0 then -i else i)) := rfl
@[simp] theorem fInt_int {i : Int} : fInt [.int i] = .ok (.int i) := rfl
@[simp] theorem fInt_bl {i : Bool} : fInt [.bl i] = .ok (.int (if i then 1 else 0)) := rfl
@[simp] theorem fMax2_int {i j : Int} : fMax2 [.int i, .int j] = .ok (.int (if j > i then j else i)) := rfl
@[simp] theorem fMin2_int {i j : Int} : fMin2 [.int i, .int j] = .ok (.int (if j < i then j else i)) := rfl
@[simp] theorem fGcd_int {i j : Int} : fGcd [.int i, .int j] = .ok (.int ((Nat.gcd i.natAbs j.natAbs : Nat) : Int)) := rfl
@[simp] theorem fLen_lst {ds : List D} : fLen [.lst ds] = .ok (.int ds.length) := rfl
@[simp] theorem fLen_kl {ds : List D} : fLen [.kl ds] = .ok (.int ds.length) := rfl
@[simp] theorem fLen_tup {ds : List D} : fLen [.tup ds] = .ok (.int ds.length) := rfl
@[simp] theorem fList_lst {ds : List D} : fList [.lst ds] = .ok (.lst ds) := rfl
@[simp] theorem fList_kl {ds : List D} : fList [.kl ds] = .ok (.lst ds) := rfl
@[simp] theorem fList_tup {ds : List D} : fList [.tup ds] = .ok (.lst ds) := rfl
@[simp] theorem fTuple_lst {ds : List D} : fTuple [.lst ds] = .ok (.tup ds) := rfl
@[simp] theorem fTuple_kl {ds : List D} : fTuple [.kl ds] = .ok (.tup ds) := rfl
@[simp] theorem fTuple_tup {ds : List D} : fTuple [.tup ds] = .ok (.tup ds) := rfl
@[simp] theorem toB_bl {b : Bool} : toB (.bl b) = .ok b := rfl
@[simp] theorem tru_bl {b : Bool} : tru (.bl b) = .ok b := rfl
@[simp] theorem tru_non : tru .non = .ok false := rfl
@[simp] theorem tru_lst {ds : List D} : tru (.lst ds) = .ok (!ds.isEmpty) := rfl
@[simp] theorem tru_tup {ds : List D} : tru (.tup ds) = .ok (!ds.isEmpty) := rfl
theorem sz_eq : sizeLine = 16777216 := sizeLine_eq
theorem fPow_ok {i j : Int} {r : Int} (h : powOk i j = true) (e : i ^ j.toNat = r) : fPow (.int i) (.int j) = .ok (.int r) := by
  show (if powOk i j then Rs.ok (D.int (i ^ j.toNat)) else .no) = _
  rw [h, e]; rfl
@[simp] theorem pow10_18 : fPow (.int 10) (.int 18) = .ok (.int 1000000000000000000) := fPow_ok (by decide +kernel) (by decide +kernel)
@[simp] theorem pow10_30 : fPow (.int 10) (.int 30) = .ok (.int 1000000000000000000000000000000) := fPow_ok (by decide +kernel) (by decide +kernel)
@[simp] theorem iterD_lst {ds : List D} : iterD (.lst ds) = some ds := rfl
@[simp] theorem iterD_kl {ds : List D} : iterD (.kl ds) = some ds := rfl
@[simp] theorem iterD_tup {ds : List D} : iterD (.tup ds) = some ds := rfl
@[simp] theorem gN_eq {i : Nat} {d : D} {ρ : Ev} : gN i d ρ = some (ρ.set i (.dat d)) := rfl
@[simp] theorem gTp_tup {q : List D → Ev → Option Ev} {ds : List D} {ρ : Ev} : gTp q (.tup ds) ρ = q ds ρ := rfl
@[simp] theorem gsCons_cons {p : D → Ev → Option Ev} {q : List D → Ev → Option Ev} {d : D} {r : List D} {ρ : Ev} : gsCons p q (d :: r) ρ = (p d ρ).bind fun ρ1 => q r ρ1 := rfl
@[simp] theorem gsNil_nil {ρ : Ev} : gsNil [] ρ = some ρ := rfl
@[simp] theorem itemsL_lst {ds : List D} : itemsL (.lst ds) = some ds := rfl
@[simp] theorem itemsL_kl {ds : List D} : itemsL (.kl ds) = some ds := rfl
@[simp] theorem forL_nil {g : D → Ev → Option Ev} {body : Ev → Fl} {ρ : Ev} : forL g body [] ρ = .nx ρ := rfl
theorem forL_step {g : D → Ev → Option Ev} {body : Ev → Fl} {d : D} {ds : List D} {ρ ρ1 ρ2 : Ev} (h1 : g d ρ = some ρ1) (h2 : body ρ1 = .nx ρ2) : forL g body (d :: ds) ρ = forL g body ds ρ2 := by
  show (match g d ρ with | none => Fl.no | some ρ1 => match body ρ1 with | .nx ρ2 => forL g body ds ρ2 | .ct ρ2 => forL g body ds ρ2 | .bk ρ2 => .nx ρ2 | .rt d => .rt d | .err c x ρ2 => .err c x ρ2 | .no => .no) = _
  rw [h1]; simp only; rw [h2]
theorem forL_ret {g : D → Ev → Option Ev} {body : Ev → Fl} {d : D} {ds : List D} {ρ ρ1 : Ev} {r : D} (h1 : g d ρ = some ρ1) (h2 : body ρ1 = .rt r) : forL g body (d :: ds) ρ = .rt r := by
  show (match g d ρ with | none => Fl.no | some ρ1 => match body ρ1 with | .nx ρ2 => forL g body ds ρ2 | .ct ρ2 => forL g body ds ρ2 | .bk ρ2 => .nx ρ2 | .rt d => .rt d | .err c x ρ2 => .err c x ρ2 | .no => .no) = _
  rw [h1]; simp only; rw [h2]
theorem forL_brk {g : D → Ev → Option Ev} {body : Ev → Fl} {d : D} {ds : List D} {ρ ρ1 ρ2 : Ev} (h1 : g d ρ = some ρ1) (h2 : body ρ1 = .bk ρ2) : forL g body (d :: ds) ρ = .nx ρ2 := by
  show (match g d ρ with | none => Fl.no | some ρ1 => match body ρ1 with | .nx ρ2 => forL g body ds ρ2 | .ct ρ2 => forL g body ds ρ2 | .bk ρ2 => .nx ρ2 | .rt d => .rt d | .err c x ρ2 => .err c x ρ2 | .no => .no) = _
  rw [h1]; simp only; rw [h2]
theorem whL_step {c : Ev → Rs Bool} {body : Ev → Fl} {n : Nat} {ρ ρ2 : Ev} (h1 : c ρ = .ok true) (h2 : body ρ = .nx ρ2) : whL c body (n + 1) ρ = whL c body n ρ2 := by
  show (match c ρ with
    | .ok true => (match body ρ with
      | .nx ρ2 => whL c body n ρ2
      | .ct ρ2 => whL c body n ρ2
      | .bk ρ2 => .nx ρ2
      | .rt d => .rt d
      | .err c x ρ2 => .err c x ρ2
      | .no => .no)
    | .ok false => .nx ρ
    | .err c x => .err c x ρ
    | .no => .no) = _
  rw [h1]; simp only; rw [h2]
theorem whL_end {c : Ev → Rs Bool} {body : Ev → Fl} {n : Nat} {ρ : Ev} (h1 : c ρ = .ok false) : whL c body (n + 1) ρ = .nx ρ := by
  unfold whL; rw [h1]
/-- a comprehension without a test -/
theorem lcL_map {g : D → Ev → Option Ev} {pe : Ev → Rs D} {ρ : Ev} {h : D → D} : ∀ {ds : List D}, (∀ d ∈ ds, ∃ ρ1, g d ρ = some ρ1 ∧ pe ρ1 = .ok (h d)) → lcL g pYes pe ρ ds = some (ds.map h)
  | [], _ => rfl
  | d :: ds, H => by
    obtain ⟨ρ1, h1, h2⟩ := H d List.mem_cons_self
    unfold lcL
    rw [h1]
    simp only [pYes]
    rw [h2, lcL_map fun d hd => H d (List.mem_cons_of_mem _ hd)]
    rfl
/-- .. with one -/
theorem lcL_filter {g : D → Ev → Option Ev} {pt : Ev → Rs Bool} {pe : Ev → Rs D} {ρ : Ev} {t : D → Bool} {h : D → D} : ∀ {ds : List D}, (∀ d ∈ ds, ∃ ρ1, g d ρ = some ρ1 ∧ pt ρ1 = .ok (t d) ∧ (t d = true → pe ρ1 = .ok (h d))) → lcL g pt pe ρ ds = some ((ds.filter t).map h)
  | [], _ => rfl
  | d :: ds, H => by
    obtain ⟨ρ1, h1, h2, h3⟩ := H d List.mem_cons_self
    have ih := lcL_filter (fun d hd => H d (List.mem_cons_of_mem _ hd))
    unfold lcL
    rw [h1]
    simp only
    rw [h2]
    cases e : t d with
    | true =>
      simp only
      rw [h3 e, ih, List.filter_cons_of_pos e]; rfl
    | false =>
      simp only
      rw [ih, List.filter_cons_of_neg (by simp [e])]
theorem ixN_nat {n j : Nat} (h : j < n) : ixN n (j : Int) = some j := by
  unfold ixN
  rw [if_pos (by omega), if_pos (by omega)]
  simp
theorem fIx_lst {ds : List D} {i : Int} {d : D} (h0 : 0 ≤ i) (h : ds[i.toNat]? = some d) : fIx (.lst ds) (.int i) = .ok d := by
  have hi : i.toNat < ds.length := (List.getElem?_eq_some_iff.mp h).1
  have e : atI ds i = some d := by
    unfold atI
    have : i = ((i.toNat : Nat) : Int) := by omega
    rw [this, ixN_nat hi]
    simpa using h
  show (match items (.lst ds) with | some es => (match atI es i with | some x => Rs.ok x | none => .no) | none => .no) = _
  simp only [items, e]
theorem fIx_tup {ds : List D} {i : Int} {d : D} (h0 : 0 ≤ i) (h : ds[i.toNat]? = some d) : fIx (.tup ds) (.int i) = .ok d := by
  have hi : i.toNat < ds.length := (List.getElem?_eq_some_iff.mp h).1
  have e : atI ds i = some d := by
    unfold atI
    have : i = ((i.toNat : Nat) : Int) := by omega
    rw [this, ixN_nat hi]
    simpa using h
  show (match items (.tup ds) with | some es => (match atI es i with | some x => Rs.ok x | none => .no) | none => .no) = _
  simp only [items, e]
@[simp] theorem fIx_pair0 {a b : D} : fIx (.tup [a, b]) (.int 0) = .ok a := fIx_tup (by decide) rfl
@[simp] theorem fIx_pair1 {a b : D} : fIx (.tup [a, b]) (.int 1) = .ok b := fIx_tup (by decide) rfl
/-- a slice ahead -/
theorem sIx_some {n : Nat} {k : Nat} (d : Nat) : HT.sIx n d (some (k : Int)) = min k n := HT.sIx_nat n d k
theorem cutD_take {α : Type} (xs : List α) (k : Nat) : cutD xs none (some (k : Int)) = xs.take k := by
  unfold cutD
  rw [HT.sIx_nat]
  show (xs.drop 0).take (min k xs.length - 0) = _
  rw [List.drop_zero, Nat.sub_zero, Nat.min_comm]
  rw [List.take_eq_take_iff]
  omega
theorem cutD_drop {α : Type} (xs : List α) (k : Nat) : cutD xs (some (k : Int)) none = xs.drop k := by
  unfold cutD
  rw [HT.sIx_nat]
  show (xs.drop (min k xs.length)).take (xs.length - min k xs.length) = _
  by_cases h : k ≤ xs.length
  · rw [Nat.min_eq_left h, List.take_of_length_le (by simp)]
  · rw [Nat.min_eq_right (by omega), List.drop_of_length_le (Nat.le_refl _), List.drop_of_length_le (by omega)]; simp
end DL
end

section
set_option linter.all false
set_option maxRecDepth 100000
set_option maxHeartbeats 4000000
namespace DL
open PySem L2
/-! ## loops and comprehensions, by what holds at each turn -/
theorem forL_gen {g : D → Ev → Option Ev} {body : Ev → Fl} (R : Fl → Prop) : ∀ (ds : List D) (P : Nat → Ev → Prop) (ρ : Ev), P 0 ρ →
    (∀ i d ρ, ds[i]? = some d → P i ρ → ∃ ρ1, g d ρ = some ρ1 ∧ ((∃ ρ2, (body ρ1 = .nx ρ2 ∨ body ρ1 = .ct ρ2) ∧ P (i + 1) ρ2) ∨ (∃ r, body ρ1 = .rt r ∧ R (.rt r)) ∨ (∃ ρ2, body ρ1 = .bk ρ2 ∧ R (.nx ρ2)) ∨ ∃ c x ρ2, body ρ1 = .err c x ρ2 ∧ R (.err c x ρ2))) →
    (∀ ρ', P ds.length ρ' → R (.nx ρ')) → R (forL g body ds ρ)
  | [], P, ρ, h0, _, he => he ρ h0
  | d :: ds, P, ρ, h0, hs, he => by
    obtain ⟨ρ1, e1, h⟩ := hs 0 d ρ rfl h0
    show R (match g d ρ with | none => Fl.no | some ρ1 => match body ρ1 with | .nx ρ2 => forL g body ds ρ2 | .ct ρ2 => forL g body ds ρ2 | .bk ρ2 => .nx ρ2 | .rt d => .rt d | .err c x ρ2 => .err c x ρ2 | .no => .no)
    rw [e1]; simp only
    rcases h with ⟨ρ2, e2, h2⟩ | ⟨r, e2, h2⟩ | ⟨ρ2, e2, h2⟩ | ⟨c, x, ρ2, e2, h2⟩
    · have ih := forL_gen R ds (fun i => P (i + 1)) ρ2 h2 (fun i d ρ hd hp => hs (i + 1) d ρ (by simpa using hd) hp) he
      rcases e2 with e2 | e2 <;> rw [e2] <;> exact ih
    · rw [e2]; exact h2
    · rw [e2]; exact h2
    · rw [e2]; exact h2
/-- each turn goes on -/
theorem forL_inv {g : D → Ev → Option Ev} {body : Ev → Fl} (P : Nat → Ev → Prop) {ds : List D} {ρ : Ev} (h0 : P 0 ρ)
    (hs : ∀ i d ρ, ds[i]? = some d → P i ρ → ∃ ρ1 ρ2, g d ρ = some ρ1 ∧ (body ρ1 = .nx ρ2 ∨ body ρ1 = .ct ρ2) ∧ P (i + 1) ρ2) : ∃ ρ', forL g body ds ρ = .nx ρ' ∧ P ds.length ρ' :=
  forL_gen (fun r => ∃ ρ', r = .nx ρ' ∧ P ds.length ρ') ds P ρ h0 (fun i d ρ hd hp => let ⟨ρ1, ρ2, a, b, c⟩ := hs i d ρ hd hp; ⟨ρ1, a, .inl ⟨ρ2, b, c⟩⟩) fun ρ' h => ⟨ρ', rfl, h⟩
theorem lcL_mapI {g : D → Ev → Option Ev} {pe : Ev → Rs D} {ρ : Ev} {h : D → D} {ds : List D} (H : ∀ d ∈ ds, ∃ ρ1, g d ρ = some ρ1 ∧ pe ρ1 = .ok (h d)) : lcL g pYes pe ρ ds = some (ds.map h) := lcL_map H
/-- [e for x in xs] -/
theorem pLc_map {ps : Ev → Rs (List D)} {g : D → Ev → Option Ev} {pe : Ev → Rs D} {vs : List Nat} {ρ : Ev} {ds : List D} (h : D → D) (h1 : ps ρ = .ok ds) (h2 : ds.length ≤ sizeLine) (H : ∀ d ∈ ds, ∃ ρ1, g d (wipeE ρ vs) = some ρ1 ∧ pe ρ1 = .ok (h d)) : pLc ps g pYes pe vs ρ = .ok (.lst (ds.map h)) := by
  unfold pLc
  rw [h1]
  show (if ds.length ≤ sizeLine then _ else _) = _
  rw [if_pos h2, lcL_map H]
theorem pLc_filter {ps : Ev → Rs (List D)} {g : D → Ev → Option Ev} {pt : Ev → Rs Bool} {pe : Ev → Rs D} {vs : List Nat} {ρ : Ev} {ds : List D} (t : D → Bool) (h : D → D) (h1 : ps ρ = .ok ds) (h2 : ds.length ≤ sizeLine) (H : ∀ d ∈ ds, ∃ ρ1, g d (wipeE ρ vs) = some ρ1 ∧ pt ρ1 = .ok (t d) ∧ (t d = true → pe ρ1 = .ok (h d))) : pLc ps g pt pe vs ρ = .ok (.lst ((ds.filter t).map h)) := by
  unfold pLc
  rw [h1]
  show (if ds.length ≤ sizeLine then _ else _) = _
  rw [if_pos h2, lcL_filter H]
/-- over typed lists -/
theorem pLc_mapT {α β : Type} {ps : Ev → Rs (List D)} {g : D → Ev → Option Ev} {pe : Ev → Rs D} {vs : List Nat} {ρ : Ev} {xs : List α} (f : α → D) (b : β → D) (h : α → β) (h1 : ps ρ = .ok (xs.map f)) (h2 : xs.length ≤ sizeLine) (H : ∀ a ∈ xs, ∃ ρ1, g (f a) (wipeE ρ vs) = some ρ1 ∧ pe ρ1 = .ok (b (h a))) : pLc ps g pYes pe vs ρ = .ok (.lst ((xs.map h).map b)) := by
  unfold pLc
  rw [h1]
  show (if (xs.map f).length ≤ sizeLine then _ else _) = _
  rw [if_pos (by simpa using h2)]
  have key : ∀ ys : List α, (∀ a ∈ ys, ∃ ρ1, g (f a) (wipeE ρ vs) = some ρ1 ∧ pe ρ1 = .ok (b (h a))) → lcL g pYes pe (wipeE ρ vs) (ys.map f) = some ((ys.map h).map b) := by
    intro ys
    induction ys with
    | nil => intro _; rfl
    | cons a ys ih =>
      intro H
      obtain ⟨ρ1, e1, e2⟩ := H a List.mem_cons_self
      show lcL g pYes pe _ (f a :: ys.map f) = _
      unfold lcL
      rw [e1]
      simp only [pYes]
      rw [e2, ih fun a ha => H a (List.mem_cons_of_mem _ ha)]
      rfl
  rw [key xs H]
theorem pLc_filterT {α β : Type} {ps : Ev → Rs (List D)} {g : D → Ev → Option Ev} {pt : Ev → Rs Bool} {pe : Ev → Rs D} {vs : List Nat} {ρ : Ev} {xs : List α} (f : α → D) (b : β → D) (t : α → Bool) (h : α → β) (h1 : ps ρ = .ok (xs.map f)) (h2 : xs.length ≤ sizeLine) (H : ∀ a ∈ xs, ∃ ρ1, g (f a) (wipeE ρ vs) = some ρ1 ∧ pt ρ1 = .ok (t a) ∧ (t a = true → pe ρ1 = .ok (b (h a)))) : pLc ps g pt pe vs ρ = .ok (.lst (((xs.filter t).map h).map b)) := by
  unfold pLc
  rw [h1]
  show (if (xs.map f).length ≤ sizeLine then _ else _) = _
  rw [if_pos (by simpa using h2)]
  have key : ∀ ys : List α, (∀ a ∈ ys, ∃ ρ1, g (f a) (wipeE ρ vs) = some ρ1 ∧ pt ρ1 = .ok (t a) ∧ (t a = true → pe ρ1 = .ok (b (h a)))) → lcL g pt pe (wipeE ρ vs) (ys.map f) = some (((ys.filter t).map h).map b) := by
    intro ys
    induction ys with
    | nil => intro _; rfl
    | cons a ys ih =>
      intro H
      obtain ⟨ρ1, e1, e2, e3⟩ := H a List.mem_cons_self
      have ih := ih fun a ha => H a (List.mem_cons_of_mem _ ha)
      show lcL g pt pe _ (f a :: ys.map f) = _
      unfold lcL
      rw [e1]
      simp only
      rw [e2]
      cases e : t a with
      | true => simp only; rw [e3 e, ih, List.filter_cons_of_pos e]; rfl
      | false => simp only; rw [ih, List.filter_cons_of_neg (by simp [e])]
  rw [key xs H]
theorem le_sz {n : Nat} (h : n ≤ 1000000) : n ≤ sizeLine := by rw [sizeLine_eq]; omega
theorem lt_sz {n : Nat} (h : n < 1000000) : n < sizeLine := by rw [sizeLine_eq]; omega
/-! ## statements, one by one -/
theorem pSeq_nx {p q : Ev → Fl} {ρ ρ1 : Ev} {r : Fl} (h : p ρ = .nx ρ1) (h' : q ρ1 = r) : pSeq p q ρ = r := by
  show (match p ρ with | .nx ρ1 => q ρ1 | r => r) = r
  rw [h]; exact h'
theorem pSeq_rt {p q : Ev → Fl} {ρ : Ev} {d : D} (h : p ρ = .rt d) : pSeq p q ρ = .rt d := by
  show (match p ρ with | .nx ρ1 => q ρ1 | r => r) = _
  rw [h]
/-! ## pairs of ints -/
abbrev Cl := Int × Int
def cD (c : Cl) : D := .tup [.int c.1, .int c.2]
theorem cD_def (a b : Int) : D.tup [.int a, .int b] = cD (a, b) := rfl
def swC (c : Cl) : Cl := (c.2, c.1)
@[simp] theorem swC_sw (c : Cl) : swC (swC c) = c := rfl
@[simp] theorem fIx_cD0 {c : Cl} : fIx (cD c) (.int 0) = .ok (.int c.1) := fIx_tup (by decide) rfl
@[simp] theorem fIx_cD1 {c : Cl} : fIx (cD c) (.int 1) = .ok (.int c.2) := fIx_tup (by decide) rfl
def pLe (a b : Cl) : Bool := decide (a.1 < b.1 ∨ (a.1 = b.1 ∧ a.2 ≤ b.2))
def pLt (a b : Cl) : Bool := decide (a.1 < b.1 ∨ (a.1 = b.1 ∧ a.2 < b.2))
theorem dLe_pair (a b : Cl) : dLe (cD a) (cD b) = pLe a b := by
  have h := congrFun (congrFun (PySem.W.dataLe_ii (β := Cl) (fun c => c.1) (fun c => c.2)) a) b
  exact h
theorem dLt_pair (a b : Cl) : dLt (cD a) (cD b) = pLt a b := PySem.W.dataLt_ii _ _ _ _
theorem pLe_total : ∀ a b : Cl, (pLe a b || pLe b a) = true := fun a b => by
  unfold pLe
  rw [← Bool.decide_or]
  apply decide_eq_true
  omega
theorem pLe_trans : ∀ a b c : Cl, pLe a b = true → pLe b c = true → pLe a c = true := fun a b c h1 h2 => by
  have h1 := of_decide_eq_true h1
  have h2 := of_decide_eq_true h2
  apply decide_eq_true
  omega
theorem pLe_anti {a b : Cl} (h1 : pLe a b = true) (h2 : pLe b a = true) : a = b := by
  have h1 := of_decide_eq_true h1
  have h2 := of_decide_eq_true h2
  exact Prod.ext (by omega) (by omega)
theorem sortOk_of {ds : List D} {t : PyData → Bool} (h1 : ∀ d ∈ ds, ∀ e ∈ ds, PySem.W.alike (toPy d) (toPy e) = true) (h2 : ∀ d ∈ ds, tupOk (toPy d) = true) (h3 : ∀ d ∈ ds, shp d = true) : sortOk ds = true := by
  unfold sortOk alikeOk
  rw [Bool.and_eq_true, Bool.and_eq_true, Bool.or_eq_true]
  exact ⟨⟨List.all_eq_true.mpr fun d hd => List.all_eq_true.mpr fun e he => h1 d hd e he, .inl (List.all_eq_true.mpr h2)⟩, List.all_eq_true.mpr h3⟩
theorem sorted_gen {α : Type} (f : α → D) (le : α → α → Bool) (hle : ∀ a b, dLe (f a) (f b) = le a b) {xs : List α} {d : D} (hd : itemsL d = some (xs.map f)) (hn : xs.length ≤ sizeLine) (ok : sortOk (xs.map f) = true) : fSorted [d] = .ok (.lst ((xs.mergeSort le).map f)) := by
  show (match itemsL d with | some ds => if sortOk ds && decide (ds.length ≤ sizeLine) then Rs.ok (D.lst (ds.mergeSort dLe)) else .no | none => .no) = _
  rw [hd]
  simp only
  rw [ok, Bool.true_and, if_pos (decide_eq_true (by simpa using hn))]
  rw [List.map_mergeSort (r := le) (s := dLe) (f := f) (l := xs) (fun a _ b _ => (hle a b).symm)]
theorem sorted_pairs {xs : List Cl} {d : D} (hd : itemsL d = some (xs.map cD)) (hn : xs.length ≤ sizeLine) : fSorted [d] = .ok (.lst ((xs.mergeSort pLe).map cD)) := by
  refine sorted_gen cD pLe dLe_pair hd hn (sortOk_of (t := fun _ => true) ?_ ?_ ?_)
  · intro d hd e he
    obtain ⟨a, _, rfl⟩ := List.mem_map.mp hd
    obtain ⟨b, _, rfl⟩ := List.mem_map.mp he
    rfl
  · intro d hd
    obtain ⟨a, _, rfl⟩ := List.mem_map.mp hd
    rfl
  · intro d hd
    obtain ⟨a, _, rfl⟩ := List.mem_map.mp hd
    rfl
/-! ## min and max of ints -/
theorem dLt_int (a b : Int) : dLt (.int a) (.int b) = decide (a < b) := PySem.W.dataLt_int a b
theorem dGt_int (a b : Int) : dGt (.int a) (.int b) = decide (b < a) := PySem.W.dataLt_int b a
theorem best_gen {α : Type} (f : α → D) (lt : α → α → Bool) (g : D → D → Bool) (hlt : ∀ a b, g (f a) (f b) = lt a b) : ∀ (xs : List α) (x : α), bestD g (f x) (xs.map f) = f (xs.foldl (fun a y => if lt y a then y else a) x)
  | [], x => rfl
  | y :: ys, x => by
    show bestD g (if g (f y) (f x) then f y else f x) (ys.map f) = f (ys.foldl _ (if lt y x then y else x))
    rw [← best_gen f lt g hlt ys]
    rw [hlt]
    cases lt y x <;> rfl
theorem pureDL_of : ∀ {ds : List D}, (∀ d ∈ ds, pureD d = true) → pureDL ds = true
  | [], _ => rfl
  | d :: ds, h => by
    show (pureD d && pureDL ds) = true
    rw [h d List.mem_cons_self, pureDL_of fun d hd => h d (List.mem_cons_of_mem _ hd)]; rfl
theorem bestOk_of {ds : List D} (h1 : ∀ d ∈ ds, ∀ e ∈ ds, PySem.W.alike (toPy d) (toPy e) = true) (h2 : ∀ d ∈ ds, isN d = false) (h3 : ∀ d ∈ ds, shp d = true) (h4 : ∀ d ∈ ds, pureD d = true) : bestOk ds = true := by
  unfold bestOk alikeOk
  rw [Bool.and_eq_true, Bool.and_eq_true, Bool.and_eq_true]
  exact ⟨List.all_eq_true.mpr fun d hd => List.all_eq_true.mpr fun e he => h1 d hd e he, List.all_eq_true.mpr fun d hd => by rw [h2 d hd]; rfl, List.all_eq_true.mpr h3, pureDL_of h4⟩
theorem bestOk_ints (L : List Int) : bestOk (L.map .int) = true := by
  refine bestOk_of ?_ ?_ ?_ ?_
  · intro d hd e he
    obtain ⟨a, _, rfl⟩ := List.mem_map.mp hd
    obtain ⟨b, _, rfl⟩ := List.mem_map.mp he
    rfl
  all_goals
    intro d hd
    obtain ⟨a, _, rfl⟩ := List.mem_map.mp hd
    rfl
theorem bestOk_pairs (L : List Cl) : bestOk (L.map cD) = true := by
  refine bestOk_of ?_ ?_ ?_ ?_
  · intro d hd e he
    obtain ⟨a, _, rfl⟩ := List.mem_map.mp hd
    obtain ⟨b, _, rfl⟩ := List.mem_map.mp he
    rfl
  all_goals
    intro d hd
    obtain ⟨a, _, rfl⟩ := List.mem_map.mp hd
    rfl
theorem foldl_min : ∀ (xs : List Int) (x : Int), (xs.foldl (fun a y => if decide (y < a) then y else a) x) ∈ x :: xs ∧ ∀ y ∈ x :: xs, (xs.foldl (fun a y => if decide (y < a) then y else a) x) ≤ y
  | [], x => ⟨List.mem_cons_self, fun y h => by rw [List.mem_singleton.mp h]; exact Int.le_refl _⟩
  | z :: zs, x => by
    obtain ⟨h1, h2⟩ := foldl_min zs (if decide (z < x) then z else x)
    rw [List.foldl_cons]
    generalize zs.foldl (fun a y => if decide (y < a) then y else a) (if decide (z < x) then z else x) = m at *
    have h3 := h2 _ List.mem_cons_self
    constructor
    · rcases List.mem_cons.mp h1 with h | h
      · rw [h]; split
        · exact List.mem_cons_of_mem _ List.mem_cons_self
        · exact List.mem_cons_self
      · exact List.mem_cons_of_mem _ (List.mem_cons_of_mem _ h)
    · intro y hy
      rcases List.mem_cons.mp hy with rfl | hy
      · split at h3
        · rename_i q; have := of_decide_eq_true q; omega
        · exact h3
      · rcases List.mem_cons.mp hy with rfl | hy
        · split at h3
          · exact h3
          · rename_i q; have : ¬ y < x := fun z => q (decide_eq_true z); omega
        · exact h2 y (List.mem_cons_of_mem _ hy)
theorem foldl_max : ∀ (xs : List Int) (x : Int), (xs.foldl (fun a y => if decide (a < y) then y else a) x) ∈ x :: xs ∧ ∀ y ∈ x :: xs, y ≤ (xs.foldl (fun a y => if decide (a < y) then y else a) x)
  | [], x => ⟨List.mem_cons_self, fun y h => by rw [List.mem_singleton.mp h]; exact Int.le_refl _⟩
  | z :: zs, x => by
    obtain ⟨h1, h2⟩ := foldl_max zs (if decide (x < z) then z else x)
    rw [List.foldl_cons]
    generalize zs.foldl (fun a y => if decide (a < y) then y else a) (if decide (x < z) then z else x) = m at *
    have h3 := h2 _ List.mem_cons_self
    constructor
    · rcases List.mem_cons.mp h1 with h | h
      · rw [h]; split
        · exact List.mem_cons_of_mem _ List.mem_cons_self
        · exact List.mem_cons_self
      · exact List.mem_cons_of_mem _ (List.mem_cons_of_mem _ h)
    · intro y hy
      rcases List.mem_cons.mp hy with rfl | hy
      · split at h3
        · rename_i q; have := of_decide_eq_true q; omega
        · exact h3
      · rcases List.mem_cons.mp hy with rfl | hy
        · split at h3
          · exact h3
          · rename_i q; have : ¬ x < y := fun z => q (decide_eq_true z); omega
        · exact h2 y (List.mem_cons_of_mem _ hy)
theorem min_ints {L : List Int} {d : D} (hd : itemsL d = some (L.map .int)) (hL : L ≠ []) : ∃ m, m ∈ L ∧ (∀ y ∈ L, m ≤ y) ∧ fMin [d] = .ok (.int m) := by
  cases L with
  | nil => exact absurd rfl hL
  | cons x xs =>
    obtain ⟨h1, h2⟩ := foldl_min xs x
    refine ⟨_, h1, h2, ?_⟩
    show (match itemsL d with | some (x :: xs) => if bestOk (x :: xs) then Rs.ok (bestD dLt x xs) else .no | _ => .no) = _
    rw [hd]
    show (if bestOk ((x :: xs).map D.int) = true then Rs.ok (bestD dLt (.int x) (xs.map .int)) else _) = _
    rw [if_pos (bestOk_ints _), best_gen D.int (fun a b => decide (a < b)) dLt dLt_int]
theorem max_ints {L : List Int} {d : D} (hd : itemsL d = some (L.map .int)) (hL : L ≠ []) : ∃ m, m ∈ L ∧ (∀ y ∈ L, y ≤ m) ∧ fMax [d] = .ok (.int m) := by
  cases L with
  | nil => exact absurd rfl hL
  | cons x xs =>
    obtain ⟨h1, h2⟩ := foldl_max xs x
    refine ⟨_, h1, h2, ?_⟩
    show (match itemsL d with | some (x :: xs) => if bestOk (x :: xs) then Rs.ok (bestD dGt x xs) else .no | _ => .no) = _
    rw [hd]
    show (if bestOk ((x :: xs).map D.int) = true then Rs.ok (bestD dGt (.int x) (xs.map .int)) else _) = _
    rw [if_pos (bestOk_ints _), best_gen D.int (fun a b => decide (b < a)) dGt dGt_int]
/-! ## equality of data of a fixed form -/
theorem fEq_shp {a b : D} (h1 : shp a = true) (h2 : shp b = true) (hs : ∀ x y, a = .str x → b ≠ .str y) : fEq a b = .ok (.bl (deq a b)) := by
  unfold fEq
  split
  · rename_i x y; exact absurd rfl (hs x y rfl)
  · rw [h1, h2]; rfl
theorem fNe_shp {a b : D} (h1 : shp a = true) (h2 : shp b = true) (hs : ∀ x y, a = .str x → b ≠ .str y) : fNe a b = .ok (.bl (!deq a b)) := by
  unfold fNe
  split
  · rename_i x y; exact absurd rfl (hs x y rfl)
  · rw [h1, h2]; rfl
@[simp] theorem deq_int {a b : Int} : deq (.int a) (.int b) = decide (a = b) := by
  show (a == b) = _
  rfl
theorem deq_cons {a b : D} {as bs : List D} : deq (.tup (a :: as)) (.tup (b :: bs)) = (deq a b && deq (.tup as) (.tup bs)) := by
  show PyData.eqv (.tuple (toPy a :: toPyL as)) (.tuple (toPy b :: toPyL bs)) = (PyData.eqv (toPy a) (toPy b) && PyData.eqv (.tuple (toPyL as)) (.tuple (toPyL bs)))
  simp [PyData.eqv, PyData.eqvAll]
@[simp] theorem deq_nil : deq (.tup []) (.tup []) = true := rfl
theorem deq_pair {a b : Cl} : deq (cD a) (cD b) = decide (a = b) := by
  unfold cD
  rw [deq_cons, deq_cons, deq_nil, deq_int, deq_int, Bool.and_true, ← Bool.decide_and]
  congr 1
  simp [Prod.ext_iff]
@[simp] theorem fEq_pair {a b : Cl} : fEq (cD a) (cD b) = .ok (.bl (decide (a = b))) := by
  rw [fEq_shp rfl rfl (fun x y e => by cases e), deq_pair]
@[simp] theorem fNe_pair {a b : Cl} : fNe (cD a) (cD b) = .ok (.bl (!decide (a = b))) := by
  rw [fNe_shp rfl rfl (fun x y e => by cases e), deq_pair]
/-! ## all, any, sum -/
theorem blsOf_map : ∀ ks : List Bool, blsOf (ks.map .bl) = some ks
  | [] => rfl
  | k :: ks => by show (blsOf (ks.map .bl)).map (k :: ·) = _; rw [blsOf_map ks]; rfl
theorem intsOf_map : ∀ ks : List Int, intsOf (ks.map .int) = some ks
  | [] => rfl
  | k :: ks => by show (intsOf (ks.map .int)).map (k :: ·) = _; rw [intsOf_map ks]; rfl
theorem fAll_bls {ks : List Bool} {d : D} (h : itemsL d = some (ks.map .bl)) : fAll [d] = .ok (.bl (ks.all id)) := by
  show (match itemsL d with | some ds => (match blsOf ds with | some ns => Rs.ok (D.bl (ns.all id)) | none => .no) | none => .no) = _
  rw [h]; simp only; rw [blsOf_map]
theorem fAny_bls {ks : List Bool} {d : D} (h : itemsL d = some (ks.map .bl)) : fAny [d] = .ok (.bl (ks.any id)) := by
  show (match itemsL d with | some ds => (match blsOf ds with | some ns => Rs.ok (D.bl (ns.any id)) | none => .no) | none => .no) = _
  rw [h]; simp only; rw [blsOf_map]
theorem fSum_ints {ks : List Int} {d : D} (h : itemsL d = some (ks.map .int)) : fSum [d] = .ok (.int ks.sum) := by
  show (match itemsL d with | some ds => (match intsOf ds with | some ns => Rs.ok (D.int ns.sum) | none => .no) | none => .no) = _
  rw [h]; simp only; rw [intsOf_map]
@[simp] theorem fAll_lst {ks : List Bool} : fAll [.lst (ks.map .bl)] = .ok (.bl (ks.all id)) := fAll_bls rfl
@[simp] theorem fAny_lst {ks : List Bool} : fAny [.lst (ks.map .bl)] = .ok (.bl (ks.any id)) := fAny_bls rfl
@[simp] theorem fSum_lst {ks : List Int} : fSum [.lst (ks.map .int)] = .ok (.int ks.sum) := fSum_ints rfl
/-- all([.. for ..]) -/
theorem pAll_comp {α : Type} {ps : Ev → Rs (List D)} {g : D → Ev → Option Ev} {pe : Ev → Rs D} {vs : List Nat} {ρ : Ev} {xs : List α} (f : α → D) (h : α → Bool) (h1 : ps ρ = .ok (xs.map f)) (h2 : xs.length ≤ sizeLine) (H : ∀ a ∈ xs, ∃ ρ1, g (f a) (wipeE ρ vs) = some ρ1 ∧ pe ρ1 = .ok (.bl (h a))) : pCall fAll (pCons (pLc ps g pYes pe vs) pNil) ρ = .ok (.bl (xs.all h)) := by
  have e := pLc_mapT (β := Bool) f .bl h h1 h2 H
  unfold pCall pCons pNil
  rw [e]
  show fAll [.lst ((xs.map h).map .bl)] = _
  rw [fAll_bls rfl, List.all_map]; rfl
theorem pAny_comp {α : Type} {ps : Ev → Rs (List D)} {g : D → Ev → Option Ev} {pe : Ev → Rs D} {vs : List Nat} {ρ : Ev} {xs : List α} (f : α → D) (h : α → Bool) (h1 : ps ρ = .ok (xs.map f)) (h2 : xs.length ≤ sizeLine) (H : ∀ a ∈ xs, ∃ ρ1, g (f a) (wipeE ρ vs) = some ρ1 ∧ pe ρ1 = .ok (.bl (h a))) : pCall fAny (pCons (pLc ps g pYes pe vs) pNil) ρ = .ok (.bl (xs.any h)) := by
  have e := pLc_mapT (β := Bool) f .bl h h1 h2 H
  unfold pCall pCons pNil
  rw [e]
  show fAny [.lst ((xs.map h).map .bl)] = _
  rw [fAny_bls rfl, List.any_map]; rfl
/-! ## enumerate -/
def lay (k : Nat) (d : D) : Prop := (toPy d).canLay0 = true ∧ (toPy d).depth ≤ k
theorem lay_int {i : Int} {k : Nat} : lay k (.int i) := ⟨by simp [toPy, PyData.canLay0], by simp [toPy, PyData.depth]⟩
theorem lay_non {k : Nat} : lay k .non := ⟨by simp [toPy, PyData.canLay0], by simp [toPy, PyData.depth]⟩
theorem lay_all {k : Nat} : ∀ {ds : List D}, (∀ d ∈ ds, lay k d) → PyData.canLayAll0 (toPyL ds) = true ∧ PyData.depthAll (toPyL ds) ≤ k
  | [], _ => ⟨by simp [toPyL, PyData.canLayAll0], by simp [toPyL, PyData.depthAll]⟩
  | d :: ds, h => by
    obtain ⟨a, b⟩ := h d List.mem_cons_self
    obtain ⟨c, e⟩ := lay_all fun x hx => h x (List.mem_cons_of_mem _ hx)
    exact ⟨by simp [toPyL, PyData.canLayAll0, a, c], by simp [toPyL, PyData.depthAll]; omega⟩
theorem lay_tup {k : Nat} {ds : List D} (h : ∀ d ∈ ds, lay k d) : lay (k + 1) (.tup ds) := by
  obtain ⟨a, b⟩ := lay_all h
  exact ⟨by simp [toPy, PyData.canLay0, a], by simp [toPy, PyData.depth]; omega⟩
theorem shp_lay {k : Nat} {d : D} (h : lay k d) (hk : k ≤ 64) : shp d = true := by
  unfold shp SeqAt.shaped
  rw [h.1, decide_eq_true (Nat.le_trans h.2 hk)]; rfl
theorem deq_refl {k : Nat} {d : D} (h : lay k d) : deq d d = true := PySem.SeqAt.eqv_refl _ h.1
theorem fNe_refl {k : Nat} {xs : List D} (h : lay k (.tup xs)) (hk : k ≤ 64) : fNe (.tup xs) (.tup xs) = .ok (.bl false) := by
  show (if shp (.tup xs) && shp (.tup xs) then Rs.ok (D.bl (!deq (.tup xs) (.tup xs))) else .no) = _
  rw [shp_lay h hk, deq_refl h]; rfl
theorem fNe_non : fNe .non .non = .ok (.bl false) := by
  show (if shp .non && shp .non then Rs.ok (D.bl (!deq .non .non)) else .no) = _
  rw [shp_lay (lay_non (k := 0)) (by decide), deq_refl (lay_non (k := 0))]; rfl
theorem lay_str {x : Str} {k : Nat} (h : PyData.strOk x = true) : lay k (.str x) := ⟨by simp [toPy, PyData.canLay0, h], by simp [toPy, PyData.depth]⟩
theorem lay_bl {x : Bool} {k : Nat} : lay k (.bl x) := ⟨by simp [toPy, PyData.canLay0], by simp [toPy, PyData.depth]⟩
theorem lay_lst {k : Nat} {ds : List D} (h : ∀ d ∈ ds, lay k d) : lay (k + 1) (.lst ds) := by
  obtain ⟨a, b⟩ := lay_all h
  exact ⟨a, Nat.succ_le_succ b⟩
theorem lay_kl {k : Nat} {ds : List D} (h : ∀ d ∈ ds, lay k d) : lay (k + 1) (.kl ds) := lay_lst h
theorem lay_cD (c : Cl) : lay 1 (cD c) := lay_tup fun d hd => by
  simp at hd
  rcases hd with rfl | rfl <;> exact lay_int
theorem lay_mono {j k : Nat} {d : D} (h : lay j d) (hk : j ≤ k) : lay k d := ⟨h.1, Nat.le_trans h.2 hk⟩
theorem shp_cDs (cs : List Cl) : shp (.tup (cs.map cD)) = true := shp_lay (lay_tup (k := 1) fun d hd => by
  obtain ⟨c, _, rfl⟩ := List.mem_map.mp hd; exact lay_cD c) (by decide)
theorem shp_cDl (cs : List Cl) : shp (.lst (cs.map cD)) = true := shp_lay (lay_lst (k := 1) fun d hd => by
  obtain ⟨c, _, rfl⟩ := List.mem_map.mp hd; exact lay_cD c) (by decide)
theorem in_pairs {neg : Bool} {p : Cl} {ps : List Cl} {c : D} (hc : items c = some (ps.map cD)) (hs : shp c = true) : fIn2 neg (cD p) c = .ok (.bl (neg ^^ decide (p ∈ ps))) := by
  have e : fIn2 neg (cD p) c = (match items c with
    | some ds => if flat (cD p) && ds.all flat then .ok (.bl (neg ^^ ds.any fun y => deq y (cD p))) else if shp (cD p) && shp c then .ok (.bl (neg ^^ ds.any fun y => deq y (cD p))) else .no
    | none => .no) := by cases c <;> rfl
  have sp : shp (cD p) = true := rfl
  have ff : flat (cD p) = false := rfl
  have an : ((ps.map cD).any fun y => deq y (cD p)) = decide (p ∈ ps) := by
    rw [List.any_map]
    rw [Bool.eq_iff_iff, List.any_eq_true, decide_eq_true_iff]
    constructor
    · rintro ⟨q, hq, h⟩
      have h : deq (cD q) (cD p) = true := h
      rw [deq_pair] at h
      rw [← of_decide_eq_true h]; exact hq
    · intro h
      exact ⟨p, h, by show deq (cD p) (cD p) = true; rw [deq_pair]; exact decide_eq_true rfl⟩
  rw [e, hc]
  simp only
  rw [ff, sp, hs, an]; rfl
theorem fSl_lst {ds : List D} {lo hi : Option Int} : fSl (.lst ds) lo hi = .ok (.lst (cutD ds lo hi)) := rfl
theorem fSl_tup {ds : List D} {lo hi : Option Int} (h : ¬ (HT.sIx ds.length 0 lo = 0 ∧ HT.sIx ds.length ds.length hi = ds.length)) : fSl (.tup ds) lo hi = .ok (.tup (cutD ds lo hi)) := by
  show (if HT.sIx ds.length 0 lo = 0 ∧ HT.sIx ds.length ds.length hi = ds.length then (Rs.no : Rs D) else .ok (.tup (cutD ds lo hi))) = _
  rw [if_neg h]
theorem fSl_tup_take {ds : List D} {k : Nat} (h : k < ds.length) : fSl (.tup ds) none (some (k : Int)) = .ok (.tup (ds.take k)) := by
  rw [fSl_tup, cutD_take]
  rw [HT.sIx_nat]
  omega
end DL
end

section
set_option linter.all false
set_option maxRecDepth 100000
set_option maxHeartbeats 4000000
set_option exponentiation.threshold 2000
namespace DL
open PySem L2
local macro_rules | `(tactic| walk_at "dl") => `(tactic| simp [pSeq, pSet, pSetO, pWith, pBin, pV, pVo, pC, pCall, pCons, pNil, pTup, pLst, pUn, pIf, pIfS, pRet, pDrop, pAsg, pPar, pAug, pApp, pFrz, frzE, pB, pTr, pNot, pAnd, pOr, pAndV, pOrV, pNotV, pChain, pNext, pFn, arity, pIter, pFor, pRg1, pRg2, pSl, pNo, pPart, pWhile, fuelI, pIsi, pIsiT, tyN, isiOk, isiB, isiAny, pLc, wipeE, sz_eq, *])
theorem dvd_iff {a b : Int} : a % b = 0 ↔ b ∣ a := ⟨Int.dvd_of_emod_eq_zero, Int.emod_eq_zero_of_dvd⟩
theorem e1b : ((10 : Int) ^ 100) < 10 ^ 200 := by decide
theorem e2b : ((10 : Nat) ^ 100) < 10 ^ 300 := by decide
theorem e3b : ((10 : Int) ^ 100) = ((10 ^ 100 : Nat) : Int) := by norm_cast
theorem gcd_step (l r : Int) (h : 0 < r) : Int.gcd r (l - l / r * r) = Int.gcd l r := by
  have e : l - l / r * r = l + r * (-(l / r)) := by grind
  rw [e, Int.gcd_add_mul_left_right, Int.gcd_comm]
theorem bez_step (l r f g q m : Nat) (h : f * r + g * l ≤ m) (r' : Nat) (hl : l = q * r + r') (f' : Nat) (hf : f' ≤ f + q * g) : g * r' + f' * r ≤ m := by
  have h1 : f' * r ≤ (f + q * g) * r := Nat.mul_le_mul_right r hf
  have h2 : g * r' + (f + q * g) * r = f * r + g * l := by rw [hl]; grind
  omega
theorem inv_wh (n m : Int) (hm : 0 < m) (hb : m < 10 ^ 100) : ∀ (k : Nat) (l r f g : Int) (x : EV), 0 < l → 0 ≤ r → r < k → l < 10 ^ 100 → r < 10 ^ 100 → f.natAbs * r.natAbs + g.natAbs * l.natAbs ≤ m.natAbs → m ∣ l - f * n → m ∣ r - g * n → Int.gcd l r = 1 →
    ∃ (f' g' : Int) (x' : EV), m ∣ 1 - f' * n ∧ whL wc_inverse_v2_0 w_inverse_v2_0 k [.dat (.int n), .dat (.int m), .dat (.int l), .dat (.int r), .dat (.int f), .dat (.int g), x] = .nx [.dat (.int n), .dat (.int m), .dat (.int 1), .dat (.int 0), .dat (.int f'), .dat (.int g'), x']
  | 0, l, r, f, g, x, hl, hr, hk, _, _, _, _, _, _ => by omega
  | k + 1, l, r, f, g, x, hl, hr, hk, bl, br, hi, d1, d2, hg => by
    by_cases hc : 0 < r
    · have q0 : 0 ≤ l / r := Int.ediv_nonneg (by omega) hr
      have q1 : l / r ≤ l := Int.ediv_le_self _ (by omega)
      have em := Int.emod_add_mul_ediv l r
      have r0 := Int.emod_nonneg l (show r ≠ 0 by omega)
      have r1 := Int.emod_lt_of_pos l hc
      have er : l - l / r * r = l % r := by rw [Int.mul_comm]; omega
      have gm : g.natAbs ≤ m.natAbs := by
        have h1 : g.natAbs * 1 ≤ g.natAbs * l.natAbs := Nat.mul_le_mul_left _ (by omega)
        omega
      have hq : 0 ≤ l / r * r := Int.mul_nonneg q0 hr
      obtain ⟨f', g', x', h1, h2⟩ := inv_wh n m hm hb k r (l - l / r * r) g (f - l / r * g) (.dat (.int (l / r))) hc (by omega) (by omega) br (by omega)
        (bez_step l.natAbs r.natAbs f.natAbs g.natAbs (l / r).natAbs m.natAbs hi (l - l / r * r).natAbs (by rw [← Int.natAbs_mul]; omega) _ (Nat.le_trans (Int.natAbs_sub_le _ _) (by rw [Int.natAbs_mul]; exact Nat.le_refl _)))
        d2 (by
          have e : l - l / r * r - (f - l / r * g) * n = (l - f * n) - l / r * (r - g * n) := by grind
          rw [e]; exact Int.dvd_sub d1 (Int.dvd_mul_of_dvd_right d2)) (by rw [gcd_step l r hc, hg])
      refine ⟨f', g', x', h1, ?_⟩
      have hd := fDiv_ok (i := l) hc (by have := e1b; omega)
      have e3 := e3b
      have e2 := e2b
      have m1 := fMul_w (i := l / r) (j := r) (by omega) (by omega)
      have m2 := fMul_w (i := l / r) (j := g) (by omega) (by omega)
      rw [whL_step (ρ2 := [.dat (.int n), .dat (.int m), .dat (.int r), .dat (.int (l - l / r * r)), .dat (.int g), .dat (.int (f - l / r * g)), .dat (.int (l / r))])]
      · exact h2
      · unfold wc_inverse_v2_0
        clear h2 d1 d2 hi e2 e3 bl br hb em
        walk_at "dl"
      · unfold w_inverse_v2_0
        clear h2 d1 d2 hi e2 e3 bl br hb em er
        walk_at "dl"
    · have h0 : r = 0 := by omega
      subst h0
      have h1 : l = 1 := by rw [Int.gcd_zero_right] at hg; omega
      subst h1
      refine ⟨f, g, x, d1, ?_⟩
      rw [whL_end]
      unfold wc_inverse_v2_0
      simp [pB, pBin, pV, pC]
theorem inverse_is (n m : Int) (hn : 0 < n) (hm : 0 < m) (bn : n < 10 ^ 100) (bm : m < 10 ^ 100) (hg : Int.gcd n m = 1) : ∃ v : Int, 0 ≤ v ∧ v < m ∧ m ∣ 1 - v * n ∧ f_inverse_v2 [.int n, .int m] = .ok (.int v) := by
  obtain ⟨f', g', x', h1, h2⟩ := inv_wh n m hm bm (m.natAbs + 1) n m 1 0 .unb hn (by omega) (by omega) bn bm (by simp) (by simp) (by simp) hg
  refine ⟨f' % m, Int.emod_nonneg _ (by omega), Int.emod_lt_of_pos _ hm, ?_, ?_⟩
  · have e : 1 - f' % m * n = (1 - f' * n) + m * (f' / m * n) := by
      have := Int.emod_add_mul_ediv f' m
      grind
    rw [e]; exact Int.dvd_add h1 (Int.dvd_mul_right _ _)
  · clear h1 hg bn bm
    unfold f_inverse_v2 runF p_inverse_v2
    walk_at "dl"
theorem chinese_none (a s b t : Int) (hs : 0 < s) (h : (b - a) % (Int.gcd s t : Int) ≠ 0) : f_chinese [.tup [.int a, .int s], .tup [.int b, .int t]] = .ok .non := by
  have g0 : (0 : Int) < Int.gcd s t := by
    have := Int.gcd_pos_of_ne_zero_left t (show s ≠ 0 by omega)
    omega
  have gg : fGcd [.int s, .int t] = .ok (.int (Int.gcd s t)) := rfl
  generalize (Int.gcd s t : Int) = g at h g0 gg
  unfold f_chinese runF p_chinese
  walk_at "dl"
theorem pos_of_pos {g a : Int} (h : 0 < g * a) (hg : 0 < g) : 0 < a := by
  by_cases hc : 0 < a
  · exact hc
  · exfalso
    have := Int.mul_nonpos_of_nonneg_of_nonpos (Int.le_of_lt hg) (show a ≤ 0 by omega)
    omega
theorem chinese_some (a s b t : Int) (hs : 0 < s) (ht : 0 < t) (bs : s < 10 ^ 100) (bt : t < 10 ^ 100) (ba : a.natAbs < 10 ^ 99) (bb : b.natAbs < 10 ^ 99) (h : (b - a) % (Int.gcd s t : Int) = 0) :
    ∃ x : Int, 0 ≤ x ∧ x < s / Int.gcd s t * t ∧ s ∣ x - a ∧ t ∣ x - b ∧ f_chinese [.tup [.int a, .int s], .tup [.int b, .int t]] = .ok (.tup [.int x, .int (s / Int.gcd s t * t)]) := by
  have g0 : (0 : Int) < Int.gcd s t := by
    have := Int.gcd_pos_of_ne_zero_left t (show s ≠ 0 by omega)
    omega
  have gg : fGcd [.int s, .int t] = .ok (.int (Int.gcd s t)) := rfl
  have cop : Int.gcd (s / Int.gcd s t) (t / Int.gcd s t) = 1 := Int.gcd_ediv_gcd_ediv_gcd (by omega)
  have ds := Int.gcd_dvd_left s t
  have dt := Int.gcd_dvd_right s t
  have gs : (Int.gcd s t : Int) ≤ s := Int.le_of_dvd hs ds
  generalize (Int.gcd s t : Int) = g at *
  obtain ⟨s', rfl⟩ := ds
  obtain ⟨t', rfl⟩ := dt
  have es : g * s' / g = s' := Int.mul_ediv_cancel_left _ (by omega)
  have et : g * t' / g = t' := Int.mul_ediv_cancel_left _ (by omega)
  have s0 : 0 < s' := pos_of_pos hs g0
  have t0 : 0 < t' := pos_of_pos ht g0
  rw [es, et] at cop
  rw [es]
  have ls : s' ≤ g * s' := by have := Int.mul_le_mul_of_nonneg_right (show 1 ≤ g by omega) (show 0 ≤ s' by omega); omega
  have lt : t' ≤ g * t' := by have := Int.mul_le_mul_of_nonneg_right (show 1 ≤ g by omega) (show 0 ≤ t' by omega); omega
  obtain ⟨v, v0, v1, hv, hf⟩ := inverse_is s' t' s0 t0 (by omega) (by omega) cop
  obtain ⟨u, hu⟩ := dvd_iff.mp h
  have eu : (b - a) / g = u := by rw [hu]; exact Int.mul_ediv_cancel_left _ (by omega)
  have ew := Int.emod_add_mul_ediv (u * v) t'
  have M0 : 0 < s' * (g * t') := Int.mul_pos s0 ht
  have key : ∀ z : Int, (a + g * s' * (u * v % t')) % (s' * (g * t')) = a + g * s' * (u * v % t') - s' * (g * t') * ((a + g * s' * (u * v % t')) / (s' * (g * t'))) := fun z => by
    have := Int.emod_add_mul_ediv (a + g * s' * (u * v % t')) (s' * (g * t'))
    omega
  refine ⟨(a + g * s' * (u * v % t')) % (s' * (g * t')), Int.emod_nonneg _ (by omega), Int.emod_lt_of_pos _ M0, ?_, ?_, ?_⟩
  · rw [key 0]
    refine ⟨u * v % t' - t' * ((a + g * s' * (u * v % t')) / (s' * (g * t'))), ?_⟩
    generalize (a + g * s' * (u * v % t')) / (s' * (g * t')) = w
    grind
  · rw [key 0]
    obtain ⟨y, hy⟩ := hv
    refine ⟨- u * y - s' * (u * v / t') - s' * ((a + g * s' * (u * v % t')) / (s' * (g * t'))), ?_⟩
    generalize (a + g * s' * (u * v % t')) / (s' * (g * t')) = w
    generalize u * v / t' = p at ew ⊢
    generalize u * v % t' = q at ew ⊢
    have e1 : q = u * v - t' * p := by omega
    have e2 : v * s' = 1 - t' * y := by omega
    have e3 : a = b - g * u := by omega
    subst e1 e3
    grind
  · have e1 := e1b
    have e2 := e2b
    have e3 := e3b
    have bu : u.natAbs ≤ (b - a).natAbs := by
      rw [hu, Int.natAbs_mul]
      have := Nat.mul_le_mul_right u.natAbs (show 1 ≤ g.natAbs by omega)
      omega
    have e4 : (10 : Nat) ^ 99 + 10 ^ 99 < 10 ^ 100 := by decide
    have p0 := Int.emod_nonneg (u * v) (show t' ≠ 0 by omega)
    have p1 := Int.emod_lt_of_pos (u * v) t0
    have m1 := fMul_w (i := u) (j := v) (by omega) (by omega)
    have m2 := fMul_w (i := s') (j := g * t') (by omega) (by omega)
    have m3 := fMul_w (i := g * s') (j := u * v % t') (by omega) (by omega)
    have d1 := fDiv_ok (i := b - a) g0 (by omega)
    have d2 := fDiv_ok (i := g * s') g0 (by omega)
    have d3 := fDiv_ok (i := g * t') g0 (by omega)
    clear key ew hu hv ba bb bs bt gs cop e1 e2 e3 v0 v1 e4 p0 p1 bu ls lt
    unfold f_chinese runF p_chinese
    walk_at "dl"
end DL
end

section
set_option linter.all false
set_option maxRecDepth 100000
set_option maxHeartbeats 4000000
set_option exponentiation.threshold 2000
namespace DL
open PySem L2
local macro_rules | `(tactic| walk_at "dl") => `(tactic| simp (disch := first | assumption | omega) [pSeq, pSet, pSetO, pWith, pBin, pV, pVo, pC, pCall, pCons, pNil, pTup, pLst, pUn, pIf, pIfS, pRet, pDrop, pAsg, pPar, pAug, pApp, pFrz, frzE, pB, pTr, pNot, pAnd, pOr, pAndV, pOrV, pNotV, pNotT, pChain, pNext, pFn, arity, pIter, pFor, pRg1, pRg2, pSl, pNo, pPart, pWhile, fuelI, pIsi, pIsiT, tyN, isiOk, isiB, isiAny, pLc, pYes, lcL, wipeE, pMeth, qStm, qFld, qPut, qKeep, qRest, pEnum2, enumOf, enumD, sz_eq, pDPutT, dKeys, dKey, pBestD, pIsC, *])
def inC (c : Cl) (t : Int) : Prop := t % c.2 = c.1
instance (c : Cl) (t : Int) : Decidable (inC c t) := inferInstanceAs (Decidable (t % c.2 = c.1))
def okC (c : Cl) : Prop := 0 ≤ c.1 ∧ c.1 < c.2
def inL (cs : List Cl) (t : Int) : Prop := ∃ c ∈ cs, inC c t
def apart (c d : Cl) : Prop := ∀ t, ¬ (inC c t ∧ inC d t)
theorem apart_symm {c d : Cl} (h : apart c d) : apart d c := fun t ⟨a, b⟩ => h t ⟨b, a⟩
def sortC (cs : List Cl) : List Cl := ((cs.map swC).mergeSort pLe).map swC
theorem map_sw (cs : List Cl) : (cs.map swC).map swC = cs := by
  rw [List.map_map]
  have : swC ∘ swC = id := funext fun c => rfl
  rw [this, List.map_id]
theorem sortC_perm (cs : List Cl) : (sortC cs).Perm cs := by
  have h := (List.mergeSort_perm (cs.map swC) pLe).map swC
  rw [map_sw] at h
  exact h
theorem sortC_len (cs : List Cl) : (sortC cs).length = cs.length := (sortC_perm cs).length_eq
theorem sortC_mem {cs : List Cl} {c : Cl} : c ∈ sortC cs ↔ c ∈ cs := (sortC_perm cs).mem_iff
theorem sortC_idem (cs : List Cl) : sortC (sortC cs) = sortC cs := by
  unfold sortC
  rw [map_sw, List.mergeSort_of_pairwise]
  exact List.pairwise_mergeSort pLe_trans pLe_total _
theorem sortC_inL {cs : List Cl} {t : Int} : inL (sortC cs) t ↔ inL cs t := ⟨fun ⟨c, h, i⟩ => ⟨c, sortC_mem.mp h, i⟩, fun ⟨c, h, i⟩ => ⟨c, sortC_mem.mpr h, i⟩⟩
theorem sortC_apart {cs : List Cl} (h : cs.Pairwise apart) : (sortC cs).Pairwise apart := ((sortC_perm cs).pairwise_iff (fun {_ _} => apart_symm)).mpr h
theorem sorted_cls {xs : List Cl} (hn : xs.length ≤ sizeLine) : fSorted [.lst (xs.map cD)] = .ok (.lst ((xs.mergeSort pLe).map cD)) := sorted_pairs rfl hn
/-! ## mod -/
theorem emod_iff {t x m : Int} (h0 : 0 ≤ x) (h1 : x < m) : t % m = x ↔ m ∣ t - x := by
  constructor
  · intro h; rw [← h]; exact Int.dvd_self_sub_emod
  · intro h
    have := Int.emod_emod_of_dvd t (Int.dvd_refl m)
    have e := (Int.emod_eq_emod_iff_emod_sub_eq_zero (m := t) (n := m) (k := x)).mpr (Int.emod_eq_zero_of_dvd h)
    rw [e]; exact Int.emod_eq_of_lt h0 h1
theorem inC_iff {c : Cl} (h : okC c) {t : Int} : inC c t ↔ c.2 ∣ t - c.1 := emod_iff h.1 h.2
/-! ## chinese -/
theorem same_class (s t x y : Int) (hs : 0 < s) (ht : 0 < t) (x0 : 0 ≤ x) (x1 : x < s / Int.gcd s t * t) (y0 : 0 ≤ y) (y1 : y < s / Int.gcd s t * t) (h1 : s ∣ x - y) (h2 : t ∣ x - y) : x = y := by
  have g0 : (0 : Int) < Int.gcd s t := by
    have := Int.gcd_pos_of_ne_zero_left t (show s ≠ 0 by omega)
    omega
  have cop : Int.gcd (s / Int.gcd s t) (t / Int.gcd s t) = 1 := Int.gcd_ediv_gcd_ediv_gcd (by omega)
  have ds := Int.gcd_dvd_left s t
  have dt := Int.gcd_dvd_right s t
  generalize (Int.gcd s t : Int) = g at *
  obtain ⟨s', rfl⟩ := ds
  obtain ⟨t', rfl⟩ := dt
  have es : g * s' / g = s' := Int.mul_ediv_cancel_left _ (by omega)
  have et : g * t' / g = t' := Int.mul_ediv_cancel_left _ (by omega)
  rw [es, et] at cop
  rw [es] at x1 y1
  obtain ⟨u, hu⟩ := h2
  obtain ⟨v, hv⟩ := h1
  have e : g * (s' * v) = g * (t' * u) := by rw [← Int.mul_assoc, ← hv, hu, Int.mul_assoc]
  have e2 : s' * v = t' * u := Int.eq_of_mul_eq_mul_left (by omega) e
  have d : s' ∣ u := by
    have h3 : s'.natAbs ∣ t'.natAbs * u.natAbs := ⟨v.natAbs, by rw [← Int.natAbs_mul, ← Int.natAbs_mul, e2]⟩
    exact Int.natAbs_dvd_natAbs.mp (Nat.Coprime.dvd_of_dvd_mul_left (show Nat.Coprime s'.natAbs t'.natAbs from cop) h3)
  obtain ⟨z, rfl⟩ := d
  have e3 : x - y = s' * (g * t') * z := by rw [hu]; grind
  have M0 : 0 < s' * (g * t') := by omega
  generalize s' * (g * t') = M at *
  by_cases hz : z = 0
  · subst hz; omega
  · exfalso
    by_cases hp : 0 < z
    · have := Int.mul_le_mul_of_nonneg_left (show 1 ≤ z by omega) (show 0 ≤ M by omega)
      omega
    · have := Int.mul_le_mul_of_nonneg_left (show z ≤ -1 by omega) (show 0 ≤ M by omega)
      omega
def oD (o : Option Cl) : D := match o with | none => .non | some c => cD c
def meetS (c d : Cl) : Option Cl → Prop
  | none => apart c d
  | some e => okC e ∧ e.2 = c.2 / Int.gcd c.2 d.2 * d.2 ∧ ∀ t, inC e t ↔ inC c t ∧ inC d t
theorem lcm_pos {s t : Int} (hs : 0 < s) (ht : 0 < t) : 0 < s / Int.gcd s t * t := by
  have g0 : (0 : Int) < Int.gcd s t := by
    have := Int.gcd_pos_of_ne_zero_left t (show s ≠ 0 by omega)
    omega
  have ds := Int.gcd_dvd_left s t
  generalize (Int.gcd s t : Int) = g at *
  obtain ⟨s', rfl⟩ := ds
  rw [Int.mul_ediv_cancel_left _ (by omega)]
  exact Int.mul_pos (pos_of_pos hs g0) ht
theorem lcm_le {s t : Int} (hs : 0 < s) (ht : 0 < t) : s / Int.gcd s t * t ≤ s * t := by
  have g0 : (0 : Int) ≤ Int.gcd s t := by omega
  exact Int.mul_le_mul_of_nonneg_right (Int.ediv_le_self _ (by omega)) (by omega)
theorem chinese_spec (c d : Cl) (hc : okC c) (hd : okC d) (bc : c.2 < 10 ^ 99) (bd : d.2 < 10 ^ 99) : ∃ o, f_chinese [cD c, cD d] = .ok (oD o) ∧ meetS c d o := by
  obtain ⟨a, s⟩ := c
  obtain ⟨b, t⟩ := d
  obtain ⟨a0, a1⟩ := hc
  obtain ⟨b0, b1⟩ := hd
  simp only at a0 a1 b0 b1 bc bd
  have e99 : (10 : Int) ^ 99 < 10 ^ 100 := by decide
  have n99 : (10 : Int) ^ 99 = ((10 ^ 99 : Nat) : Int) := by norm_cast
  by_cases h : (b - a) % (Int.gcd s t : Int) = 0
  · obtain ⟨x, x0, x1, h1, h2, e⟩ := chinese_some a s b t (by omega) (by omega) (by omega) (by omega) (by omega) (by omega) h
    refine ⟨some (x, s / Int.gcd s t * t), e, ⟨x0, x1⟩, rfl, fun u => ?_⟩
    have M0 := lcm_pos (show 0 < s by omega) (show 0 < t by omega)
    have dm1 : s ∣ s / Int.gcd s t * t := by
      obtain ⟨k, hk⟩ := Int.gcd_dvd_right s t
      have ds := Int.gcd_dvd_left s t
      refine ⟨k, ?_⟩
      conv => lhs; rhs; rw [hk]
      rw [← Int.mul_assoc, Int.ediv_mul_cancel ds]
    have dm2 : t ∣ s / Int.gcd s t * t := Int.dvd_mul_left _ _
    show u % (s / Int.gcd s t * t) = x ↔ u % s = a ∧ u % t = b
    rw [emod_iff a0 a1, emod_iff b0 b1]
    constructor
    · intro q
      rw [emod_iff x0 x1] at q
      exact ⟨by have := Int.dvd_add (Int.dvd_trans dm1 q) h1; rwa [show u - x + (x - a) = u - a by omega] at this, by have := Int.dvd_add (Int.dvd_trans dm2 q) h2; rwa [show u - x + (x - b) = u - b by omega] at this⟩
    · rintro ⟨q1, q2⟩
      have y0 := Int.emod_nonneg u (show s / Int.gcd s t * t ≠ 0 by omega)
      have y1 := Int.emod_lt_of_pos u M0
      have z : s / Int.gcd s t * t ∣ u - u % (s / Int.gcd s t * t) := Int.dvd_self_sub_emod
      refine (same_class s t x _ (by omega) (by omega) x0 x1 y0 y1 ?_ ?_).symm
      · have := Int.dvd_add (Int.dvd_sub h1 q1) (Int.dvd_trans dm1 z)
        rwa [show x - a - (u - a) + (u - u % (s / Int.gcd s t * t)) = x - u % (s / Int.gcd s t * t) by omega] at this
      · have := Int.dvd_add (Int.dvd_sub h2 q2) (Int.dvd_trans dm2 z)
        rwa [show x - b - (u - b) + (u - u % (s / Int.gcd s t * t)) = x - u % (s / Int.gcd s t * t) by omega] at this
  · refine ⟨none, chinese_none a s b t (by omega) h, fun u => ?_⟩
    rintro ⟨q1, q2⟩
    have q1 : u % s = a := q1
    have q2 : u % t = b := q2
    rw [emod_iff a0 a1] at q1
    rw [emod_iff b0 b1] at q2
    apply h
    apply Int.emod_eq_zero_of_dvd
    have := Int.dvd_sub (Int.dvd_trans (Int.gcd_dvd_left s t) q1) (Int.dvd_trans (Int.gcd_dvd_right s t) q2)
    rwa [show u - a - (u - b) = b - a by omega] at this
/-- two classes that are apart have remainders that differ modulo the divisor -/
theorem apart_gcd {c d : Cl} (hc : okC c) (hd : okC d) (bc : c.2 < 10 ^ 99) (bd : d.2 < 10 ^ 99) : apart c d ↔ c.1 % (Int.gcd c.2 d.2 : Int) ≠ d.1 % (Int.gcd c.2 d.2 : Int) := by
  have p1 : 0 < c.2 := by have := hc.1; have := hc.2; omega
  have p2 : 0 < d.2 := by have := hd.1; have := hd.2; omega
  constructor
  · intro h e
    have e1 : (d.1 - c.1) % (Int.gcd c.2 d.2 : Int) = 0 := (Int.emod_eq_emod_iff_emod_sub_eq_zero).mp e.symm
    have e99 : (10 : Int) ^ 99 < 10 ^ 100 := by decide
    have n99 : (10 : Int) ^ 99 = ((10 ^ 99 : Nat) : Int) := by norm_cast
    have h1 := hc.1; have h2 := hc.2; have h3 := hd.1; have h4 := hd.2
    obtain ⟨x, x0, x1, k1, k2, _⟩ := chinese_some c.1 c.2 d.1 d.2 p1 p2 (by omega) (by omega) (by omega) (by omega) e1
    exact h x ⟨(inC_iff hc).mpr k1, (inC_iff hd).mpr k2⟩
  · rintro h t ⟨q1, q2⟩
    rw [inC_iff hc] at q1
    rw [inC_iff hd] at q2
    apply h
    rw [Int.emod_eq_emod_iff_emod_sub_eq_zero]
    apply Int.emod_eq_zero_of_dvd
    have := Int.dvd_sub (Int.dvd_trans (Int.gcd_dvd_right c.2 d.2) q2) (Int.dvd_trans (Int.gcd_dvd_left c.2 d.2) q1)
    rwa [show t - d.1 - (t - c.1) = c.1 - d.1 by omega] at this
end DL
end

section
set_option linter.all false
set_option maxRecDepth 100000
set_option maxHeartbeats 4000000
set_option exponentiation.threshold 2000
namespace DL
open PySem L2
local macro_rules | `(tactic| walk_at "dl") => `(tactic| simp (disch := first | assumption | omega) [pSeq, pSet, pSetO, pWith, pBin, pV, pVo, pC, pCall, pCons, pNil, pTup, pLst, pUn, pIf, pIfS, pRet, pDrop, pAsg, pPar, pAug, pApp, pFrz, frzE, pB, pTr, pNot, pAnd, pOr, pAndV, pOrV, pNotV, pNotT, pChain, pNext, pFn, arity, pIter, pFor, pRg1, pRg2, pSl, pNo, pPart, pWhile, fuelI, pIsi, pIsiT, tyN, isiOk, isiB, isiAny, pLc, pYes, lcL, wipeE, pMeth, qStm, qFld, qPut, qKeep, qRest, pEnum2, enumOf, enumD, sz_eq, pDPutT, dKeys, dKey, pBestD, pIsC, List.getElem?_cons_zero, List.getElem?_cons_succ, *])
/-! ## solved, for an even modulus -/
def solM (f r s : Int) : List Cl :=
  let r' := if f < 0 then -r else r
  let f' := if f < 0 then -f else f
  if f' = 0 then (if r' % (2 * s) = 0 then [(0, 1)] else [])
  else if f' = 1 then [(r' % (2 * s), 2 * s)]
  else if r' % 2 = 1 then [] else [(r' / 2 % s, s)]
theorem whole_eq : fList [c_WHOLE] = .ok (.lst [cD (0, 1)]) := rfl
theorem solved_is (f r s : Int) (hs : 0 < s) (bs : s < 10 ^ 100) : f_solved [.int f, .int r, .int (2 * s)] = .ok (.lst ((solM f r s).map cD)) := by
  have w := whole_eq
  have h2 : ¬ (2 * s) % 2 = 1 := by omega
  have h3 : 2 * s / 2 = s := by omega
  have h2' : (2 * s) % 2 = 0 := by omega
  have m1 : ∀ i : Int, fMod (.int i) (.int (2 * s)) = .ok (.int (i % (2 * s))) := fun i => fMod_ok (by omega)
  have m2 : ∀ i : Int, fMod (.int i) (.int s) = .ok (.int (i % s)) := fun i => fMod_ok (by omega)
  have sz : (1 : Nat) ≤ 16777216 := by decide
  unfold f_solved runF p_solved solM
  by_cases h : f < 0
  · by_cases a : -f = 0
    · by_cases b : -r % (2 * s) = 0
      · walk_at "dl"
      · walk_at "dl"
    · by_cases b : -f = 1
      · walk_at "dl"
        rfl
      · by_cases c : -r % 2 = 1
        · have c2 : r % 2 = 1 := by omega
          walk_at "dl"
        · have c2 : ¬ r % 2 = 1 := by omega
          walk_at "dl"
          rfl
  · by_cases a : f = 0
    · by_cases b : r % (2 * s) = 0
      · walk_at "dl"
      · walk_at "dl"
    · by_cases b : f = 1
      · walk_at "dl"
        rfl
      · by_cases c : r % 2 = 1
        · walk_at "dl"
        · walk_at "dl"
          rfl
theorem solM_ok {f r s : Int} (hs : 0 < s) : ∀ c ∈ solM f r s, okC c ∧ c.2 ≤ 2 * s := by
  intro c hc
  unfold solM at hc
  simp only at hc
  generalize (if f < 0 then -r else r) = r' at hc
  generalize (if f < 0 then -f else f) = f' at hc
  split at hc
  · split at hc
    · rw [List.mem_singleton.mp hc]; exact ⟨⟨by decide, by decide⟩, by show (1 : Int) ≤ _; omega⟩
    · simp at hc
  · split at hc
    · rw [List.mem_singleton.mp hc]; exact ⟨⟨Int.emod_nonneg _ (by omega), Int.emod_lt_of_pos _ (by omega)⟩, Int.le_refl _⟩
    · split at hc
      · simp at hc
      · rw [List.mem_singleton.mp hc]; exact ⟨⟨Int.emod_nonneg _ (by omega), Int.emod_lt_of_pos _ hs⟩, by show s ≤ 2 * s; omega⟩
theorem solM_len (f r s : Int) : (solM f r s).length ≤ 1 := by
  unfold solM
  simp only
  (repeat' split) <;> simp
/-- what modulus -/
def modM (f s : Int) : Int := if f = 0 then 1 else if f = 1 ∨ f = -1 then 2 * s else s
theorem solM_mod {f r s : Int} : ∀ c ∈ solM f r s, c.2 = modM f s ∧ (f = 0 → c = (0, 1)) := by
  intro c hc
  unfold solM at hc
  simp only at hc
  unfold modM
  by_cases a : f = 0
  · subst a
    have z : (if (0 : Int) < 0 then -(0 : Int) else 0) = 0 := by decide
    rw [if_pos z] at hc
    by_cases q : (if (0 : Int) < 0 then -r else r) % (2 * s) = 0
    · rw [if_pos q] at hc; rw [List.mem_singleton.mp hc]; exact ⟨by simp, fun _ => rfl⟩
    · rw [if_neg q] at hc; simp at hc
  · refine ⟨?_, fun z => absurd z a⟩
    rw [if_neg a]
    by_cases b : f = 1 ∨ f = -1
    · rw [if_pos b]
      have h1 : ¬ (if f < 0 then -f else f) = 0 := by split <;> omega
      have h2 : (if f < 0 then -f else f) = 1 := by split <;> omega
      rw [if_neg h1, if_pos h2] at hc
      rw [List.mem_singleton.mp hc]
    · rw [if_neg b]
      have h1 : ¬ (if f < 0 then -f else f) = 0 := by split <;> omega
      have h2 : ¬ (if f < 0 then -f else f) = 1 := by split <;> omega
      rw [if_neg h1, if_neg h2] at hc
      by_cases q : (if f < 0 then -r else r) % 2 = 1
      · rw [if_pos q] at hc; simp at hc
      · rw [if_neg q] at hc; rw [List.mem_singleton.mp hc]
theorem half_dvd {s k : Int} : 2 * s ∣ 2 * k ↔ s ∣ k := by
  constructor
  · rintro ⟨c, hc⟩; exact ⟨c, by rw [Int.mul_assoc] at hc; omega⟩
  · rintro ⟨c, hc⟩; exact ⟨c, by rw [hc, Int.mul_assoc]⟩
theorem solM_sem {f r s : Int} (hs : 0 < s) (h0 : -2 ≤ f) (h1 : f ≤ 2) (t : Int) : inL (solM f r s) t ↔ 2 * s ∣ f * t - r := by
  have base : ∀ f' r' : Int, (f' = 0 ∨ f' = 1 ∨ f' = 2) → (inL (if f' = 0 then (if r' % (2 * s) = 0 then [(0, 1)] else []) else if f' = 1 then [(r' % (2 * s), 2 * s)] else if r' % 2 = 1 then [] else [(r' / 2 % s, s)]) t ↔ 2 * s ∣ f' * t - r') := by
    rintro f' r' (rfl | rfl | rfl)
    · rw [if_pos rfl, Int.zero_mul, Int.zero_sub, Int.dvd_neg]
      split
      · rename_i h
        exact ⟨fun _ => Int.dvd_of_emod_eq_zero h, fun _ => ⟨_, List.mem_singleton.mpr rfl, Int.emod_one t⟩⟩
      · rename_i h
        exact ⟨fun ⟨c, hc, _⟩ => by simp at hc, fun z => absurd (Int.emod_eq_zero_of_dvd z) h⟩
    · rw [if_neg (by decide), if_pos rfl, Int.one_mul]
      constructor
      · rintro ⟨c, hc, h⟩
        rw [List.mem_singleton.mp hc] at h
        exact Int.dvd_of_emod_eq_zero ((Int.emod_eq_emod_iff_emod_sub_eq_zero).mp h)
      · intro h
        exact ⟨_, List.mem_singleton.mpr rfl, (Int.emod_eq_emod_iff_emod_sub_eq_zero).mpr (Int.emod_eq_zero_of_dvd h)⟩
    · rw [if_neg (by decide), if_neg (by decide)]
      split
      · rename_i h
        refine ⟨fun ⟨c, hc, _⟩ => by simp at hc, fun z => ?_⟩
        obtain ⟨k, hk⟩ := z
        rw [Int.mul_assoc] at hk
        omega
      · rename_i h
        have e : 2 * t - r' = 2 * (t - r' / 2) := by omega
        rw [e, half_dvd]
        constructor
        · rintro ⟨c, hc, h⟩
          rw [List.mem_singleton.mp hc] at h
          exact Int.dvd_of_emod_eq_zero ((Int.emod_eq_emod_iff_emod_sub_eq_zero).mp h)
        · intro h
          exact ⟨_, List.mem_singleton.mpr rfl, (Int.emod_eq_emod_iff_emod_sub_eq_zero).mpr (Int.emod_eq_zero_of_dvd h)⟩
  unfold solM
  simp only
  by_cases h : f < 0
  · rw [if_pos h, if_pos h, base _ _ (by omega)]
    rw [show -f * t - -r = -(f * t - r) by rw [Int.neg_mul]; omega, Int.dvd_neg]
  · rw [if_neg h, if_neg h, base _ _ (by omega)]
/-! ## united -/
def unitM (a b : List Cl) : List Cl :=
  if (0, 1) ∈ a ∨ (0, 1) ∈ b then [(0, 1)] else match a, b with
    | [c], [d] => if c = d then [c] else sortC [c, d]
    | a, b => a ++ b
theorem in_whole (a : List Cl) (h : a.length ≤ 1) : fIn2 false (cD (0, 1)) (.lst (a.map cD)) = .ok (.bl (decide ((0, 1) ∈ a))) := by
  match a, h with
  | [], _ => rfl
  | [c], _ =>
    have e : fIn2 false (cD (0, 1)) (.lst ([c].map cD)) = .ok (.bl (false ^^ (deq (cD c) (cD (0, 1)) || false))) := rfl
    rw [e, deq_pair, Bool.or_false, Bool.false_xor]
    congr 2
    exact decide_eq_decide.mpr ⟨fun z => List.mem_singleton.mpr z.symm, fun z => (List.mem_singleton.mp z).symm⟩
theorem united_is (a b : List Cl) (ha : a.length ≤ 1) (hb : b.length ≤ 1) : f_united [.lst (a.map cD), .lst (b.map cD)] = .ok (.lst ((unitM a b).map cD)) := by
  have ix : fIx c_WHOLE (.int 0) = .ok (cD (0, 1)) := rfl
  have i1 := in_whole a ha
  have i2 := in_whole b hb
  have w := whole_eq
  unfold f_united runF p_united unitM
  by_cases h1 : (0, 1) ∈ a
  · rw [decide_eq_true h1] at i1
    have h3 : (0, 1) ∈ a ∨ (0, 1) ∈ b := .inl h1
    rw [if_pos h3]
    clear h1 h3
    generalize D.lst (a.map cD) = A at *
    generalize D.lst (b.map cD) = B at *
    walk_at "dl"
  · by_cases h2 : (0, 1) ∈ b
    · rw [decide_eq_false h1] at i1
      rw [decide_eq_true h2] at i2
      have h3 : (0, 1) ∈ a ∨ (0, 1) ∈ b := .inr h2
      rw [if_pos h3]
      clear h1 h2 h3
      generalize D.lst (a.map cD) = A at *
      generalize D.lst (b.map cD) = B at *
      walk_at "dl"
    · rw [decide_eq_false h1] at i1
      rw [decide_eq_false h2] at i2
      rw [if_neg (fun z => z.elim h1 h2)]
      clear h1 h2
      match a, b, ha, hb with
      | [], [], _, _ =>
        have s1 := sorted_cls (xs := []) (by simp)
        rw [List.mergeSort_nil] at s1
        have ad : fAdd (.lst (([] : List Cl).map cD)) (.lst (([] : List Cl).map cD)) = .ok (.lst []) := rfl
        have fl : fListDT [.dt [] []] = .ok (.lst []) := rfl
        simp only [List.map_nil] at *
        walk_at "dl"
      | [c], [], _, _ =>
        have s1 := sorted_cls (xs := [swC c]) (le_sz (by simp))
        rw [List.mergeSort_singleton] at s1
        have ad : fAdd (.lst ([c].map cD)) (.lst (([] : List Cl).map cD)) = .ok (.lst [cD c]) := rfl
        have fl : fListDT [.dt [[.inl c.2, .inl c.1]] [.bl true]] = .ok (.lst ([swC c].map cD)) := rfl
        simp only [List.map_cons, List.map_nil] at *
        have pk : putKs ([] : List (List Key)) [.inl c.2, .inl c.1] = [[.inl c.2, .inl c.1]] := rfl
        have pv : putVs ([] : List (List Key)) [] [.inl c.2, .inl c.1] (D.bl true) = [.bl true] := rfl
        have l1 : l_united_0 [.dat (.lst [cD c]), .dat (.lst []), .own (.dt [] []), .dat (.int c.1), .dat (.int c.2)] = .nx [.dat (.lst [cD c]), .dat (.lst []), .own (.dt [[.inl c.2, .inl c.1]] [.bl true]), .dat (.int c.1), .dat (.int c.2)] := by
          unfold l_united_0
          walk_at "dl"
        have fr : forL (gTp (gsCons (gN 3) (gsCons (gN 4) gsNil))) l_united_0 [cD c] [.dat (.lst [cD c]), .dat (.lst []), .own (.dt [] []), .unb, .unb] = .nx [.dat (.lst [cD c]), .dat (.lst []), .own (.dt [[.inl c.2, .inl c.1]] [.bl true]), .dat (.int c.1), .dat (.int c.2)] := by
          rw [forL_step rfl l1]; rfl
        have e0 : e_united_0 [.dat (.lst [cD c]), .dat (.lst []), .dat (.dt [[.inl c.2, .inl c.1]] [.bl true]), .dat (.int c.1), .dat (.int c.2)] = .ok (cD c) := by
          unfold e_united_0
          walk_at "dl"
          rfl
        have lc := pLc_mapT (ps := pIter (pCall fSorted (pCons (pCall fListDT (pCons (pV 2) pNil)) pNil))) (g := gTp (gsCons (gN 4) (gsCons (gN 3) gsNil))) (pe := e_united_0) (vs := [4, 3]) (ρ := [.dat (.lst [cD c]), .dat (.lst []), .dat (.dt [[.inl c.2, .inl c.1]] [.bl true]), .dat (.int c.1), .dat (.int c.2)]) (xs := [swC c]) cD cD swC (by walk_at "dl") (le_sz (by simp)) (fun a ha => by
          rw [List.mem_singleton.mp ha]; exact ⟨_, rfl, e0⟩)
        clear e0 l1 pk pv
        simp [pNext, pSeq, pIfS, pOr, pB, pBin, pC, pV, pSetO, pWith, pFor, pIter, ad, ix, i1, i2, fr, pFrz, frzE, pRet, lc]
      | [], [c], _, _ =>
        have s1 := sorted_cls (xs := [swC c]) (le_sz (by simp))
        rw [List.mergeSort_singleton] at s1
        have ad : fAdd (.lst (([] : List Cl).map cD)) (.lst ([c].map cD)) = .ok (.lst [cD c]) := rfl
        have fl : fListDT [.dt [[.inl c.2, .inl c.1]] [.bl true]] = .ok (.lst ([swC c].map cD)) := rfl
        simp only [List.map_cons, List.map_nil] at *
        have pk : putKs ([] : List (List Key)) [.inl c.2, .inl c.1] = [[.inl c.2, .inl c.1]] := rfl
        have pv : putVs ([] : List (List Key)) [] [.inl c.2, .inl c.1] (D.bl true) = [.bl true] := rfl
        have l1 : l_united_0 [.dat (.lst []), .dat (.lst [cD c]), .own (.dt [] []), .dat (.int c.1), .dat (.int c.2)] = .nx [.dat (.lst []), .dat (.lst [cD c]), .own (.dt [[.inl c.2, .inl c.1]] [.bl true]), .dat (.int c.1), .dat (.int c.2)] := by
          unfold l_united_0
          walk_at "dl"
        have fr : forL (gTp (gsCons (gN 3) (gsCons (gN 4) gsNil))) l_united_0 [cD c] [.dat (.lst []), .dat (.lst [cD c]), .own (.dt [] []), .unb, .unb] = .nx [.dat (.lst []), .dat (.lst [cD c]), .own (.dt [[.inl c.2, .inl c.1]] [.bl true]), .dat (.int c.1), .dat (.int c.2)] := by
          rw [forL_step rfl l1]; rfl
        have e0 : e_united_0 [.dat (.lst []), .dat (.lst [cD c]), .dat (.dt [[.inl c.2, .inl c.1]] [.bl true]), .dat (.int c.1), .dat (.int c.2)] = .ok (cD c) := by
          unfold e_united_0
          walk_at "dl"
          rfl
        have lc := pLc_mapT (ps := pIter (pCall fSorted (pCons (pCall fListDT (pCons (pV 2) pNil)) pNil))) (g := gTp (gsCons (gN 4) (gsCons (gN 3) gsNil))) (pe := e_united_0) (vs := [4, 3]) (ρ := [.dat (.lst []), .dat (.lst [cD c]), .dat (.dt [[.inl c.2, .inl c.1]] [.bl true]), .dat (.int c.1), .dat (.int c.2)]) (xs := [swC c]) cD cD swC (by walk_at "dl") (le_sz (by simp)) (fun a ha => by
          rw [List.mem_singleton.mp ha]; exact ⟨_, rfl, e0⟩)
        clear e0 l1 pk pv
        simp [pNext, pSeq, pIfS, pOr, pB, pBin, pC, pV, pSetO, pWith, pFor, pIter, ad, ix, i1, i2, fr, pFrz, frzE, pRet, lc]
      | [c], [d], _, _ =>
        have ad : fAdd (.lst ([c].map cD)) (.lst ([d].map cD)) = .ok (.lst [cD c, cD d]) := rfl
        simp only [List.map_cons, List.map_nil] at *
        have pk : putKs ([] : List (List Key)) [.inl c.2, .inl c.1] = [[.inl c.2, .inl c.1]] := rfl
        have pv : putVs ([] : List (List Key)) [] [.inl c.2, .inl c.1] (D.bl true) = [.bl true] := rfl
        have l1 : l_united_0 [.dat (.lst [cD c]), .dat (.lst [cD d]), .own (.dt [] []), .dat (.int c.1), .dat (.int c.2)] = .nx [.dat (.lst [cD c]), .dat (.lst [cD d]), .own (.dt [[.inl c.2, .inl c.1]] [.bl true]), .dat (.int c.1), .dat (.int c.2)] := by
          unfold l_united_0
          walk_at "dl"
        by_cases q : c = d
        · subst q
          rw [if_pos rfl]
          have s1 := sorted_cls (xs := [swC c]) (le_sz (by simp))
          rw [List.mergeSort_singleton] at s1
          have fl : fListDT [.dt [[.inl c.2, .inl c.1]] [.bl true]] = .ok (.lst ([swC c].map cD)) := rfl
          simp only [List.map_cons, List.map_nil] at s1 fl
          have pk2 : putKs [[(.inl c.2 : Key), .inl c.1]] [.inl c.2, .inl c.1] = [[.inl c.2, .inl c.1]] := by unfold putKs; rw [if_pos List.mem_cons_self]
          have pv2 : putVs [[(.inl c.2 : Key), .inl c.1]] [D.bl true] [.inl c.2, .inl c.1] (D.bl true) = [.bl true] := by unfold putVs; rw [if_pos List.mem_cons_self]; simp
          have l2 : l_united_0 [.dat (.lst [cD c]), .dat (.lst [cD c]), .own (.dt [[.inl c.2, .inl c.1]] [.bl true]), .dat (.int c.1), .dat (.int c.2)] = .nx [.dat (.lst [cD c]), .dat (.lst [cD c]), .own (.dt [[.inl c.2, .inl c.1]] [.bl true]), .dat (.int c.1), .dat (.int c.2)] := by
            unfold l_united_0
            walk_at "dl"
          have fr : forL (gTp (gsCons (gN 3) (gsCons (gN 4) gsNil))) l_united_0 [cD c, cD c] [.dat (.lst [cD c]), .dat (.lst [cD c]), .own (.dt [] []), .unb, .unb] = .nx [.dat (.lst [cD c]), .dat (.lst [cD c]), .own (.dt [[.inl c.2, .inl c.1]] [.bl true]), .dat (.int c.1), .dat (.int c.2)] := by
            rw [forL_step rfl l1, forL_step rfl l2]; rfl
          have e0 : e_united_0 [.dat (.lst [cD c]), .dat (.lst [cD c]), .dat (.dt [[.inl c.2, .inl c.1]] [.bl true]), .dat (.int c.1), .dat (.int c.2)] = .ok (cD c) := by
            unfold e_united_0
            walk_at "dl"
            rfl
          have lc := pLc_mapT (ps := pIter (pCall fSorted (pCons (pCall fListDT (pCons (pV 2) pNil)) pNil))) (g := gTp (gsCons (gN 4) (gsCons (gN 3) gsNil))) (pe := e_united_0) (vs := [4, 3]) (ρ := [.dat (.lst [cD c]), .dat (.lst [cD c]), .dat (.dt [[.inl c.2, .inl c.1]] [.bl true]), .dat (.int c.1), .dat (.int c.2)]) (xs := [swC c]) cD cD swC (by walk_at "dl") (le_sz (by simp)) (fun a ha => by
            rw [List.mem_singleton.mp ha]; exact ⟨_, rfl, e0⟩)
          clear e0 l1 l2 pk pv pk2 pv2
          simp [pNext, pSeq, pIfS, pOr, pB, pBin, pC, pV, pSetO, pWith, pFor, pIter, ad, ix, i1, i2, fr, pFrz, frzE, pRet, lc]
        · rw [if_neg q]
          have nq : ¬ ([.inl d.2, .inl d.1] : List Key) ∈ [[(.inl c.2 : Key), .inl c.1]] := fun z => by
            have z := List.mem_singleton.mp z
            injection z with z1 z2
            injection z2 with z2 _
            injection z1 with z1
            injection z2 with z2
            exact q (Prod.ext z2.symm z1.symm)
          have pk2 : putKs [[(.inl c.2 : Key), .inl c.1]] [.inl d.2, .inl d.1] = [[.inl c.2, .inl c.1], [.inl d.2, .inl d.1]] := by unfold putKs; rw [if_neg nq]; rfl
          have pv2 : putVs [[(.inl c.2 : Key), .inl c.1]] [D.bl true] [.inl d.2, .inl d.1] (D.bl true) = [.bl true, .bl true] := by unfold putVs; rw [if_neg nq]; rfl
          have fl : fListDT [.dt [[.inl c.2, .inl c.1], [.inl d.2, .inl d.1]] [.bl true, .bl true]] = .ok (.lst ([swC c, swC d].map cD)) := rfl
          have s1 := sorted_cls (xs := [swC c, swC d]) (le_sz (by simp))
          simp only [List.map_cons, List.map_nil] at s1 fl
          have l2 : l_united_0 [.dat (.lst [cD c]), .dat (.lst [cD d]), .own (.dt [[.inl c.2, .inl c.1]] [.bl true]), .dat (.int d.1), .dat (.int d.2)] = .nx [.dat (.lst [cD c]), .dat (.lst [cD d]), .own (.dt [[.inl c.2, .inl c.1], [.inl d.2, .inl d.1]] [.bl true, .bl true]), .dat (.int d.1), .dat (.int d.2)] := by
            unfold l_united_0
            walk_at "dl"
          have fr : forL (gTp (gsCons (gN 3) (gsCons (gN 4) gsNil))) l_united_0 [cD c, cD d] [.dat (.lst [cD c]), .dat (.lst [cD d]), .own (.dt [] []), .unb, .unb] = .nx [.dat (.lst [cD c]), .dat (.lst [cD d]), .own (.dt [[.inl c.2, .inl c.1], [.inl d.2, .inl d.1]] [.bl true, .bl true]), .dat (.int d.1), .dat (.int d.2)] := by
            rw [forL_step rfl l1, forL_step rfl l2]; rfl
          have lc := pLc_mapT (ps := pIter (pCall fSorted (pCons (pCall fListDT (pCons (pV 2) pNil)) pNil))) (g := gTp (gsCons (gN 4) (gsCons (gN 3) gsNil))) (pe := e_united_0) (vs := [4, 3]) (ρ := [.dat (.lst [cD c]), .dat (.lst [cD d]), .dat (.dt [[.inl c.2, .inl c.1], [.inl d.2, .inl d.1]] [.bl true, .bl true]), .dat (.int d.1), .dat (.int d.2)]) (xs := [swC c, swC d].mergeSort pLe) cD cD swC (by walk_at "dl") (le_sz (by rw [List.length_mergeSort]; simp)) (fun a ha => by
            refine ⟨_, rfl, ?_⟩
            unfold e_united_0
            walk_at "dl"
            rfl)
          clear l1 l2 pk pv pk2 pv2 nq
          simp [pNext, pSeq, pIfS, pOr, pB, pBin, pC, pV, pSetO, pWith, pFor, pIter, ad, ix, i1, i2, fr, pFrz, frzE, pRet, lc, sortC]
end DL
end

section
set_option linter.all false
set_option maxRecDepth 100000
set_option maxHeartbeats 4000000
set_option exponentiation.threshold 2000
namespace DL
open PySem L2
local macro_rules | `(tactic| walk_at "dl") => `(tactic| simp (disch := first | assumption | omega) [-List.map_map, pSeq, pSet, pSetO, pWith, pBin, pV, pVo, pC, pCall, pCons, pNil, pTup, pLst, pUn, pIf, pIfS, pRet, pDrop, pAsg, pPar, pAug, pApp, pFrz, frzE, pB, pTr, pNot, pAnd, pOr, pAndV, pOrV, pNotV, pNotT, pChain, pNext, pFn, arity, pIter, pFor, pRg1, pRg2, pSl, pNo, pPart, pWhile, fuelI, pIsi, pIsiT, tyN, isiOk, isiB, isiAny, pLc, pYes, lcL, wipeE, pMeth, qStm, qFld, qPut, qKeep, qRest, pEnum2, enumOf, enumD, sz_eq, pDPutT, dKeys, dKey, pBestD, pIsC, List.getElem?_cons_zero, List.getElem?_cons_succ, *])
def Good (cs : List Cl) : Prop := (∀ c ∈ cs, okC c) ∧ cs.Pairwise apart
theorem inL_cons {c : Cl} {cs : List Cl} {t : Int} : inL (c :: cs) t ↔ inC c t ∨ inL cs t := by
  constructor
  · rintro ⟨d, hd, h⟩
    rcases List.mem_cons.mp hd with rfl | hd
    · exact .inl h
    · exact .inr ⟨d, hd, h⟩
  · rintro (h | ⟨d, hd, h⟩)
    · exact ⟨c, List.mem_cons_self, h⟩
    · exact ⟨d, List.mem_cons_of_mem _ hd, h⟩
theorem inL_nil {t : Int} : ¬ inL [] t := fun ⟨_, h, _⟩ => by simp at h
theorem inL_append {a b : List Cl} {t : Int} : inL (a ++ b) t ↔ inL a t ∨ inL b t := by
  constructor
  · rintro ⟨d, hd, h⟩
    rcases List.mem_append.mp hd with hd | hd
    · exact .inl ⟨d, hd, h⟩
    · exact .inr ⟨d, hd, h⟩
  · rintro (⟨d, hd, h⟩ | ⟨d, hd, h⟩)
    · exact ⟨d, List.mem_append_left _ hd, h⟩
    · exact ⟨d, List.mem_append_right _ hd, h⟩
theorem unitM_len {a b : List Cl} (ha : a.length ≤ 1) (hb : b.length ≤ 1) : (unitM a b).length ≤ 2 := by
  unfold unitM
  split
  · simp
  · split
    · split
      · simp
      · rw [sortC_len]; simp
    · rw [List.length_append]; omega
theorem unitM_mem {a b : List Cl} {c : Cl} (h : c ∈ unitM a b) : c ∈ a ∨ c ∈ b := by
  unfold unitM at h
  split at h
  · rename_i q; rw [List.mem_singleton.mp h]; exact q
  · split at h
    · split at h
      · exact .inl h
      · rw [sortC_mem] at h
        rcases List.mem_cons.mp h with rfl | h
        · exact .inl List.mem_cons_self
        · exact .inr h
    · exact List.mem_append.mp h
theorem whole_in {t : Int} : inC (0, 1) t := Int.emod_one t
theorem unitM_sem {a b : List Cl} {t : Int} : inL (unitM a b) t ↔ inL a t ∨ inL b t := by
  constructor
  · rintro ⟨c, h, i⟩
    rcases unitM_mem h with h | h
    · exact .inl ⟨c, h, i⟩
    · exact .inr ⟨c, h, i⟩
  · intro h
    unfold unitM
    split
    · exact ⟨_, List.mem_singleton.mpr rfl, whole_in⟩
    · split
      · split
        · rename_i q; subst q; simpa using h
        · rw [sortC_inL, inL_cons]
          rcases h with h | h
          · exact .inl (by rw [inL_cons] at h; exact h.resolve_right inL_nil)
          · exact .inr h
      · exact inL_append.mpr h
theorem unitM_good {a b : List Cl} (ha : a.length ≤ 1) (hb : b.length ≤ 1) (oa : ∀ c ∈ a, okC c) (ob : ∀ c ∈ b, okC c) (hm : ∀ c ∈ a, ∀ d ∈ b, c.2 = d.2 ∨ c = (0, 1) ∨ d = (0, 1)) : Good (unitM a b) := by
  refine ⟨fun c hc => (unitM_mem hc).elim (oa c) (ob c), ?_⟩
  unfold unitM
  split
  · exact List.pairwise_singleton _ _
  · rename_i hw
    match a, b, ha, hb with
    | [], [], _, _ => exact List.Pairwise.nil
    | [c], [], _, _ => exact List.pairwise_singleton _ _
    | [], [c], _, _ => exact List.pairwise_singleton _ _
    | [c], [d], _, _ =>
      simp only
      split
      · exact List.pairwise_singleton _ _
      · rename_i q
        refine sortC_apart (List.pairwise_pair.mpr fun t ⟨q1, q2⟩ => ?_)
        rcases hm c List.mem_cons_self d List.mem_cons_self with z | z | z
        · have q1 : t % c.2 = c.1 := q1
          have q2 : t % d.2 = d.1 := q2
          rw [z] at q1
          exact q (Prod.ext (q1.symm.trans q2) z)
        · exact hw (.inl (by rw [z]; exact List.mem_cons_self))
        · exact hw (.inr (by rw [z]; exact List.mem_cons_self))
/-! ## point_classes, meeting_classes -/
def pcM (s a st g : Int) : List Cl := unitM (solM st (g - a) s) (solM st (-g - a) s)
def mcM (s a st b mv : Int) : List Cl := unitM (solM (st - mv) (b - a) s) (solM (st + mv) (-b - a) s)
theorem point_classes_is (s a st g : Int) (hs : 0 < s) (bs : s < 10 ^ 100) : f_point_classes_v2 [.int s, .int a, .int st, .int g] = .ok (.lst ((pcM s a st g).map cD)) := by
  have m : fMul (.int 2) (.int s) = .ok (.int (2 * s)) := fMul_l (by decide)
  have e1 := solved_is st (g - a) s hs bs
  have e2 := solved_is st (-g - a) s hs bs
  have e3 := united_is _ _ (solM_len st (g - a) s) (solM_len st (-g - a) s)
  unfold f_point_classes_v2 runF p_point_classes_v2 pcM
  walk_at "dl"
theorem meeting_classes_is (s a st b mv : Int) (hs : 0 < s) (bs : s < 10 ^ 100) : f_meeting_classes [.int s, .int a, .int st, .int b, .int mv] = .ok (.lst ((mcM s a st b mv).map cD)) := by
  have m : fMul (.int 2) (.int s) = .ok (.int (2 * s)) := fMul_l (by decide)
  have e1 := solved_is (st - mv) (b - a) s hs bs
  have e2 := solved_is (st + mv) (-b - a) s hs bs
  have e3 := united_is _ _ (solM_len (st - mv) (b - a) s) (solM_len (st + mv) (-b - a) s)
  unfold f_meeting_classes runF p_meeting_classes mcM
  walk_at "dl"
theorem pcM_sem {s a st g t : Int} (hs : 0 < s) (h0 : -1 ≤ st) (h1 : st ≤ 1) : inL (pcM s a st g) t ↔ 2 * s ∣ a + st * t - g ∨ 2 * s ∣ a + st * t + g := by
  unfold pcM
  rw [unitM_sem, solM_sem hs (by omega) (by omega), solM_sem hs (by omega) (by omega)]
  rw [show st * t - (g - a) = a + st * t - g by omega, show st * t - (-g - a) = a + st * t + g by omega]
theorem mcM_sem {s a st b mv t : Int} (hs : 0 < s) (h0 : -1 ≤ st) (h1 : st ≤ 1) (h2 : -1 ≤ mv) (h3 : mv ≤ 1) : inL (mcM s a st b mv) t ↔ 2 * s ∣ a + st * t - (b + mv * t) ∨ 2 * s ∣ a + st * t + (b + mv * t) := by
  unfold mcM
  rw [unitM_sem, solM_sem hs (by omega) (by omega), solM_sem hs (by omega) (by omega)]
  rw [show (st - mv) * t - (b - a) = a + st * t - (b + mv * t) by rw [Int.sub_mul]; omega, show (st + mv) * t - (-b - a) = a + st * t + (b + mv * t) by rw [Int.add_mul]; omega]
theorem pcM_good {s a st g : Int} (hs : 0 < s) : Good (pcM s a st g) ∧ (pcM s a st g).length ≤ 2 ∧ ∀ c ∈ pcM s a st g, c.2 ≤ 2 * s := by
  refine ⟨unitM_good (solM_len _ _ _) (solM_len _ _ _) (fun c h => (solM_ok hs c h).1) (fun c h => (solM_ok hs c h).1) (fun c hc d hd => .inl ?_), unitM_len (solM_len _ _ _) (solM_len _ _ _), fun c hc => ?_⟩
  · rw [(solM_mod c hc).1, (solM_mod d hd).1]
  · rcases unitM_mem hc with h | h
    · exact (solM_ok hs c h).2
    · exact (solM_ok hs c h).2
theorem mcM_good {s a st b mv : Int} (hs : 0 < s) (h0 : -1 ≤ st) (h1 : st ≤ 1) (h2 : -1 ≤ mv) (h3 : mv ≤ 1) : Good (mcM s a st b mv) ∧ (mcM s a st b mv).length ≤ 2 ∧ ∀ c ∈ mcM s a st b mv, c.2 ≤ 2 * s := by
  refine ⟨unitM_good (solM_len _ _ _) (solM_len _ _ _) (fun c h => (solM_ok hs c h).1) (fun c h => (solM_ok hs c h).1) (fun c hc d hd => ?_), unitM_len (solM_len _ _ _) (solM_len _ _ _), fun c hc => ?_⟩
  · have m1 := solM_mod c hc
    have m2 := solM_mod d hd
    by_cases z1 : st - mv = 0
    · exact .inr (.inl (m1.2 z1))
    · by_cases z2 : st + mv = 0
      · exact .inr (.inr (m2.2 z2))
      · left
        rw [m1.1, m2.1]
        unfold modM
        rw [if_neg z1, if_neg z2]
        by_cases z3 : st - mv = 1 ∨ st - mv = -1
        · rw [if_pos z3, if_pos (by omega)]
        · rw [if_neg z3, if_neg (by omega)]
  · rcases unitM_mem hc with h | h
    · exact (solM_ok hs c h).2
    · exact (solM_ok hs c h).2
/-! ## crossed -/
noncomputable def chF (c d : Cl) : Option Cl := by
  classical exact if h : ∃ o, f_chinese [cD c, cD d] = .ok (oD o) then h.choose else none
theorem chF_is {c d : Cl} (hc : okC c) (hd : okC d) (bc : c.2 < 10 ^ 99) (bd : d.2 < 10 ^ 99) : f_chinese [cD c, cD d] = .ok (oD (chF c d)) ∧ meetS c d (chF c d) := by
  obtain ⟨o, h1, h2⟩ := chinese_spec c d hc hd bc bd
  have h : ∃ o, f_chinese [cD c, cD d] = .ok (oD o) := ⟨o, h1⟩
  have e : chF c d = h.choose := by unfold chF; rw [dif_pos h]
  have e1 := h.choose_spec
  rw [← e] at e1
  have e2 : chF c d = o := by
    rw [h1] at e1
    injection e1 with e1
    cases o with
    | none =>
      cases q : chF c d with
      | none => rfl
      | some x => rw [q] at e1; cases e1
    | some y =>
      cases q : chF c d with
      | none => rw [q] at e1; cases e1
      | some x =>
        rw [q] at e1
        obtain ⟨x1, x2⟩ := x
        obtain ⟨y1, y2⟩ := y
        have e1 : D.tup [.int y1, .int y2] = .tup [.int x1, .int x2] := e1
        injection e1 with e1
        injection e1 with a b
        injection a with a
        injection b with b _
        injection b with b
        rw [a, b]
  exact ⟨e1, by rw [e2]; exact h2⟩
noncomputable def crP (xs ys : List Cl) : List Cl := xs.flatMap fun x => ys.filterMap (chF x)
noncomputable def crM (xs ys : List Cl) : List Cl := sortC (crP xs ys)
theorem cr_in (xs ys : D) (x : Cl) (L acc : List Cl) (hx : okC x) (bx : x.2 < 10 ^ 99) (hL : ∀ c ∈ L, okC c ∧ c.2 < 10 ^ 99) (sz : acc.length + L.length < 1000000) (z4 z5 z6 z7 : EV) : ∃ y4 y5,
    forL (gN 4) l_crossed_0 (L.map cD) [.dat xs, .dat ys, .own (.lst (acc.map cD)), .dat (cD x), z4, z5, z6, z7] = .nx [.dat xs, .dat ys, .own (.lst ((acc ++ (L.filterMap (chF x)).map swC).map cD)), .dat (cD x), y4, y5, z6, z7] := by
  induction L generalizing acc z4 z5 with
  | nil => exact ⟨z4, z5, by simp⟩
  | cons y L ih =>
    obtain ⟨oy, by_⟩ := hL y List.mem_cons_self
    obtain ⟨e1, _⟩ := chF_is hx oy bx by_
    have sz' : acc.length < 16777216 := by simp at sz; omega
    cases q : chF x y with
    | none =>
      rw [q] at e1
      replace e1 : f_chinese [cD x, cD y] = .ok .non := e1
      obtain ⟨y4, y5, r⟩ := ih acc (fun c hc => hL c (List.mem_cons_of_mem _ hc)) (by simp at sz; omega) (.dat (cD y)) (.dat .non)
      refine ⟨y4, y5, ?_⟩
      rw [List.map_cons, forL_step rfl (ρ2 := [.dat xs, .dat ys, .own (.lst (acc.map cD)), .dat (cD x), .dat (cD y), .dat .non, z6, z7]), r]
      · simp [q]
      · have n : fIsNot .non .non = .ok (.bl false) := rfl
        unfold l_crossed_0
        walk_at "dl"
    | some e =>
      rw [q] at e1
      replace e1 : f_chinese [cD x, cD y] = .ok (cD e) := e1
      obtain ⟨y4, y5, r⟩ := ih (acc ++ [swC e]) (fun c hc => hL c (List.mem_cons_of_mem _ hc)) (by simp at sz ⊢; omega) (.dat (cD y)) (.dat (cD e))
      refine ⟨y4, y5, ?_⟩
      rw [List.map_cons, forL_step rfl (ρ2 := [.dat xs, .dat ys, .own (.lst ((acc ++ [swC e]).map cD)), .dat (cD x), .dat (cD y), .dat (cD e), z6, z7]), r]
      · simp [q]
      · have n : fIsNot (cD e) .non = .ok (.bl true) := rfl
        have sw : D.tup [.int e.2, .int e.1] = cD (swC e) := rfl
        unfold l_crossed_0
        walk_at "dl"
theorem cr_out (xs : D) (ys : List Cl) (hy : ∀ c ∈ ys, okC c ∧ c.2 < 10 ^ 99) (ny : ys.length ≤ 1000) (z6 z7 : EV) : ∀ (L acc : List Cl) (z3 z4 z5 : EV), (∀ c ∈ L, okC c ∧ c.2 < 10 ^ 99) → acc.length + L.length * ys.length < 900000 → ∃ y3 y4 y5,
    forL (gN 3) l_crossed_1 (L.map cD) [.dat xs, .dat (.lst (ys.map cD)), .own (.lst (acc.map cD)), z3, z4, z5, z6, z7] = .nx [.dat xs, .dat (.lst (ys.map cD)), .own (.lst ((acc ++ (crP L ys).map swC).map cD)), y3, y4, y5, z6, z7]
  | [], acc, z3, z4, z5, _, _ => ⟨z3, z4, z5, by simp [crP]⟩
  | x :: L, acc, z3, z4, z5, hL, sz => by
    obtain ⟨ox, bx⟩ := hL x List.mem_cons_self
    have l1 : (ys.filterMap (chF x)).length ≤ ys.length := List.length_filterMap_le _ _
    rw [List.length_cons, Nat.add_mul, Nat.one_mul] at sz
    obtain ⟨y4, y5, r⟩ := cr_in xs (.lst (ys.map cD)) x ys acc ox bx hy (by omega) z4 z5 z6 z7
    obtain ⟨w3, w4, w5, r2⟩ := cr_out xs ys hy ny z6 z7 L (acc ++ (ys.filterMap (chF x)).map swC) (.dat (cD x)) y4 y5 (fun c hc => hL c (List.mem_cons_of_mem _ hc)) (by simp; omega)
    refine ⟨w3, w4, w5, ?_⟩
    rw [List.map_cons, forL_step rfl (ρ2 := [.dat xs, .dat (.lst (ys.map cD)), .own (.lst ((acc ++ (ys.filterMap (chF x)).map swC).map cD)), .dat (cD x), y4, y5, z6, z7]), r2]
    · simp [crP]
    · unfold l_crossed_1
      walk_at "dl"
theorem crP_len (ys : List Cl) : ∀ xs : List Cl, (crP xs ys).length ≤ xs.length * ys.length
  | [] => by simp [crP]
  | x :: xs => by
    have h := crP_len ys xs
    have l1 : (ys.filterMap (chF x)).length ≤ ys.length := List.length_filterMap_le _ _
    rw [List.length_cons, Nat.add_mul, Nat.one_mul]
    have e : crP (x :: xs) ys = ys.filterMap (chF x) ++ crP xs ys := by simp [crP]
    rw [e, List.length_append]; omega
theorem crossed_is (xs ys : List Cl) (hx : ∀ c ∈ xs, okC c ∧ c.2 < 10 ^ 99) (hy : ∀ c ∈ ys, okC c ∧ c.2 < 10 ^ 99) (nx : xs.length ≤ 500) (ny : ys.length ≤ 500) : f_crossed [.lst (xs.map cD), .lst (ys.map cD)] = .ok (.lst ((crM xs ys).map cD)) := by
  have hp : xs.length * ys.length ≤ 500 * 500 := Nat.mul_le_mul nx ny
  have hl := crP_len ys xs
  obtain ⟨y3, y4, y5, r⟩ := cr_out (.lst (xs.map cD)) ys hy (by omega) .unb .unb xs [] .unb .unb .unb hx (by simp; omega)
  rw [List.nil_append] at r
  rw [show (([] : List Cl).map cD) = [] from rfl] at r
  have s1 := sorted_cls (xs := (crP xs ys).map swC) (le_sz (by simp; omega))
  have lc := pLc_mapT (ps := pIter (pCall fSorted (pCons (pV 2) pNil))) (g := gTp (gsCons (gN 6) (gsCons (gN 7) gsNil))) (pe := e_crossed_0) (vs := [6, 7]) (ρ := [.dat (.lst (xs.map cD)), .dat (.lst (ys.map cD)), .dat (.lst (((crP xs ys).map swC).map cD)), y3, y4, y5, .unb, .unb]) (xs := ((crP xs ys).map swC).mergeSort pLe) cD cD swC (by walk_at "dl") (le_sz (by simp; omega)) (fun a ha => by
    refine ⟨_, rfl, ?_⟩
    unfold e_crossed_0
    walk_at "dl"
    rfl)
  unfold f_crossed runF p_crossed crM sortC
  simp [-List.map_map, pNext, pSeq, pSetO, pWith, pLst, pNil, pFor, pIter, pV, r, pFrz, frzE, pRet, lc]
theorem crM_sem {xs ys : List Cl} (hx : ∀ c ∈ xs, okC c ∧ c.2 < 10 ^ 99) (hy : ∀ c ∈ ys, okC c ∧ c.2 < 10 ^ 99) {t : Int} : inL (crM xs ys) t ↔ inL xs t ∧ inL ys t := by
  unfold crM
  rw [sortC_inL]
  constructor
  · rintro ⟨e, he, h⟩
    obtain ⟨x, hx', he⟩ := List.mem_flatMap.mp he
    obtain ⟨y, hy', q⟩ := List.mem_filterMap.mp he
    have m := (chF_is (hx x hx').1 (hy y hy').1 (hx x hx').2 (hy y hy').2).2
    rw [q] at m
    obtain ⟨h1, h2⟩ := (m.2.2 t).mp h
    exact ⟨⟨x, hx', h1⟩, y, hy', h2⟩
  · rintro ⟨⟨x, hx', h1⟩, y, hy', h2⟩
    have m := (chF_is (hx x hx').1 (hy y hy').1 (hx x hx').2 (hy y hy').2).2
    cases q : chF x y with
    | none => rw [q] at m; exact absurd ⟨h1, h2⟩ (m t)
    | some e =>
      rw [q] at m
      exact ⟨e, List.mem_flatMap.mpr ⟨x, hx', List.mem_filterMap.mpr ⟨y, hy', q⟩⟩, (m.2.2 t).mpr ⟨h1, h2⟩⟩
theorem crM_len {xs ys : List Cl} : (crM xs ys).length ≤ xs.length * ys.length := by
  unfold crM
  rw [sortC_len]
  exact crP_len ys xs
theorem crM_mem {xs ys : List Cl} (hx : ∀ c ∈ xs, okC c ∧ c.2 < 10 ^ 99) (hy : ∀ c ∈ ys, okC c ∧ c.2 < 10 ^ 99) {e : Cl} (he : e ∈ crM xs ys) : ∃ x ∈ xs, ∃ y ∈ ys, okC e ∧ e.2 = x.2 / Int.gcd x.2 y.2 * y.2 ∧ ∀ t, inC e t ↔ inC x t ∧ inC y t := by
  unfold crM at he
  rw [sortC_mem] at he
  obtain ⟨x, hx', he⟩ := List.mem_flatMap.mp he
  obtain ⟨y, hy', q⟩ := List.mem_filterMap.mp he
  have m := (chF_is (hx x hx').1 (hy y hy').1 (hx x hx').2 (hy y hy').2).2
  rw [q] at m
  exact ⟨x, hx', y, hy', m⟩
theorem crM_good {xs ys : List Cl} (hx : ∀ c ∈ xs, okC c ∧ c.2 < 10 ^ 99) (hy : ∀ c ∈ ys, okC c ∧ c.2 < 10 ^ 99) (gx : xs.Pairwise apart) (gy : ys.Pairwise apart) : Good (crM xs ys) := by
  refine ⟨fun e he => let ⟨_, _, _, _, o, _⟩ := crM_mem hx hy he; o, ?_⟩
  unfold crM
  refine sortC_apart ?_
  unfold crP
  rw [List.pairwise_flatMap]
  constructor
  · intro x hx'
    rw [List.pairwise_filterMap]
    refine gy.imp_of_mem fun {y z} hy1 hz1 a e e1 f f1 t => ?_
    have m1 := (chF_is (hx x hx').1 (hy y hy1).1 (hx x hx').2 (hy y hy1).2).2
    have m2 := (chF_is (hx x hx').1 (hy z hz1).1 (hx x hx').2 (hy z hz1).2).2
    rw [e1] at m1
    rw [f1] at m2
    exact fun ⟨q1, q2⟩ => a t ⟨((m1.2.2 t).mp q1).2, ((m2.2.2 t).mp q2).2⟩
  · refine gx.imp_of_mem fun {x z} hx1 hz1 a e he f hf t => ?_
    obtain ⟨y, hy1, e1⟩ := List.mem_filterMap.mp he
    obtain ⟨v, hv1, f1⟩ := List.mem_filterMap.mp hf
    have m1 := (chF_is (hx x hx1).1 (hy y hy1).1 (hx x hx1).2 (hy y hy1).2).2
    have m2 := (chF_is (hx z hz1).1 (hy v hv1).1 (hx z hz1).2 (hy v hv1).2).2
    rw [e1] at m1
    rw [f1] at m2
    exact fun ⟨q1, q2⟩ => a t ⟨((m1.2.2 t).mp q1).1, ((m2.2.2 t).mp q2).1⟩
end DL
end

section
set_option linter.all false
set_option maxRecDepth 100000
set_option maxHeartbeats 4000000
set_option exponentiation.threshold 2000
namespace DL
open PySem L2
local macro_rules | `(tactic| walk_at "dl") => `(tactic| simp (disch := first | assumption | omega) [-List.map_map, pSeq, pSet, pSetO, pWith, pBin, pV, pVo, pC, pCall, pCons, pNil, pTup, pLst, pUn, pIf, pIfS, pRet, pDrop, pAsg, pPar, pAug, pApp, pFrz, frzE, pB, pTr, pNot, pAnd, pOr, pAndV, pOrV, pNotV, pNotT, pChain, pNext, pFn, arity, pIter, pFor, pRg1, pRg2, pSl, pNo, pPart, pWhile, fuelI, pIsi, pIsiT, tyN, isiOk, isiB, isiAny, pLc, pYes, lcL, wipeE, pMeth, qStm, qFld, qPut, qKeep, qRest, pEnum2, enumOf, enumD, sz_eq, pDPutT, dKeys, dKey, pBestD, pIsC, List.getElem?_cons_zero, List.getElem?_cons_succ, *])
local macro_rules | `(tactic| walk_at "dk") => `(tactic| simp (disch := first | assumption | omega) [-List.map_map, pSeq, pSet, pSetO, pWith, pBin, pV, pVo, pC, pCall, pCons, pNil, pTup, pLst, pUn, pIf, pIfS, pRet, pDrop, pAsg, pPar, pAug, pApp, pFrz, frzE, pB, pTr, pNot, pAnd, pOr, pAndV, pOrV, pNotV, pNotT, pChain, pNext, pFn, arity, pIter, pFor, pRg1, pRg2, pSl, pNo, pPart, pWhile, fuelI, pIsi, pIsiT, tyN, isiOk, isiB, isiAny,  qStm, qFld, qPut, qKeep, qRest, pEnum2, enumOf, enumD, sz_eq, pDPutT, dKeys, dKey, pBestD, pIsC, wipeE, List.getElem?_cons_zero, List.getElem?_cons_succ, *])
def oi (o : Option Int) : D := match o with | none => .non | some i => .int i
def tmD (s : Int) (e : Option Int) (cs : List Cl) : D := .ins "Times" ["start", "end", "classes"] [.int s, oi e, .lst (cs.map cD)]
@[simp] theorem tm_start {s : Int} {e : Option Int} {cs : List Cl} : fFld "Times" "start" (tmD s e cs) = .ok (.int s) := rfl
@[simp] theorem tm_end {s : Int} {e : Option Int} {cs : List Cl} : fFld "Times" "end" (tmD s e cs) = .ok (oi e) := rfl
@[simp] theorem tm_classes {s : Int} {e : Option Int} {cs : List Cl} : fFld "Times" "classes" (tmD s e cs) = .ok (.lst (cs.map cD)) := rfl
theorem is_class_is (c : Cl) (h : okC c) : f_is_class [cD c] = .ok (.bl true) := by
  obtain ⟨h0, h1⟩ := h
  have a := pLc_mapT (ps := pIter (pV 0)) (g := gN 1) (pe := e_is_class_0) (vs := [1]) (ρ := [.dat (cD c), .unb]) (xs := [c.1, c.2]) .int .bl (fun _ => true) (by rfl) (le_sz (by simp)) (fun a _ => ⟨_, rfl, by unfold e_is_class_0; walk_at "dl"⟩)
  have l : fLen [cD c] = .ok (.int 2) := rfl
  have ty : tyN (cD c) = "tuple" := rfl
  have al : fAll [.lst [.bl true, .bl true]] = .ok (.bl true) := rfl
  simp only [List.map_cons, List.map_nil] at a
  unfold f_is_class runF p_is_class
  simp only [cD] at *
  walk_at "dk"
theorem gcd_pos' {c d : Cl} (hc : okC c) : (0 : Int) < (Int.gcd c.2 d.2 : Int) := by
  have := Int.gcd_pos_of_ne_zero_left d.2 (show c.2 ≠ 0 by have := hc.1; have := hc.2; omega)
  omega
theorem are_apart_is (c d : Cl) (hc : okC c) (hd : okC d) (bc : c.2 < 10 ^ 99) (bd : d.2 < 10 ^ 99) : ∃ b, f_are_apart [cD c, cD d] = .ok (.bl b) ∧ (b = true ↔ apart c d) := by
  have g0 := gcd_pos' (d := d) hc
  refine ⟨!decide (c.1 % (Int.gcd c.2 d.2 : Int) = d.1 % (Int.gcd c.2 d.2 : Int)), ?_, ?_⟩
  · have gg : fGcd [.int c.2, .int d.2] = .ok (.int (Int.gcd c.2 d.2)) := rfl
    generalize (Int.gcd c.2 d.2 : Int) = g at *
    unfold f_are_apart runF p_are_apart
    walk_at "dl"
  · rw [apart_gcd hc hd bc bd]
    simp
theorem ti_rows (x : EV) (s e cl : D) (z6 z7 z8 z9 : EV) : ∀ (L acc : List Cl) (z5 : EV), (∀ c ∈ L, okC c) → acc.length + L.length < 1000000 → ∃ y5,
    forL (gN 5) l_Times_init_0 (L.map cD) [x, .dat s, .dat e, .dat cl, .own (.lst (acc.map cD)), z5, z6, z7, z8, z9] = .nx [x, .dat s, .dat e, .dat cl, .own (.lst ((acc ++ L.map swC).map cD)), y5, z6, z7, z8, z9]
  | [], acc, z5, _, _ => ⟨z5, by simp⟩
  | c :: L, acc, z5, h, sz => by
    obtain ⟨y5, r⟩ := ti_rows x s e cl z6 z7 z8 z9 L (acc ++ [swC c]) (.dat (cD c)) (fun c hc => h c (List.mem_cons_of_mem _ hc)) (by simp at sz ⊢; omega)
    refine ⟨y5, ?_⟩
    rw [List.map_cons, forL_step rfl (ρ2 := [x, .dat s, .dat e, .dat cl, .own (.lst ((acc ++ [swC c]).map cD)), .dat (cD c), z6, z7, z8, z9]), r]
    · simp
    · have i := is_class_is c (h c List.mem_cons_self)
      have sw : D.tup [.int c.2, .int c.1] = cD (swC c) := rfl
      have szz : acc.length < 16777216 := by simp at sz; omega
      unfold l_Times_init_0
      walk_at "dl"
theorem ti_apart (s : Int) (e : Option Int) (cs : List Cl) (ss ee cl : D) (rows z7 z8 z9 : EV) (h : ∀ c ∈ cs, okC c ∧ c.2 < 10 ^ 99) (hp : cs.Pairwise apart) (hl : cs.length ≤ 5000) (z5 z6 : EV) :
    ∃ y5 y6, r_Times_init_0 [.dat (tmD s e cs), .dat ss, .dat ee, .dat cl, rows, z5, z6, z7, z8, z9] = .nx [.dat (tmD s e cs), .dat ss, .dat ee, .dat cl, rows, y5, y6, z7, z8, z9] := by
  obtain ⟨ρ', e1, y5, y6, e2⟩ := forL_inv (g := gTp (gsCons (gN 6) (gsCons (gN 5) gsNil))) (body := l_Times_init_1) (ds := enumD 0 (cs.map cD)) (ρ := [.dat (tmD s e cs), .dat ss, .dat ee, .dat cl, rows, z5, z6, z7, z8, z9])
    (fun i ρ => ∃ y5 y6, ρ = [.dat (tmD s e cs), .dat ss, .dat ee, .dat cl, rows, y5, y6, z7, z8, z9]) ⟨z5, z6, rfl⟩ (fun i d ρ hd ⟨y5, y6, hρ⟩ => by
      subst hρ
      obtain ⟨d', hd1, rfl⟩ := enumD_get hd
      rw [List.getElem?_map] at hd1
      obtain ⟨c, hc, rfl⟩ := Option.map_eq_some_iff.mp hd1
      rw [Int.zero_add]
      refine ⟨_, [.dat (tmD s e cs), .dat ss, .dat ee, .dat cl, rows, .dat (cD c), .dat (.int i), z7, z8, z9], rfl, .inl ?_, ⟨_, _, rfl⟩⟩
      have hi : i < cs.length := (List.getElem?_eq_some_iff.mp hc).1
      have hci : cs[i] = c := (List.getElem?_eq_some_iff.mp hc).2
      have cut : fSl (.lst (cs.map cD)) (some ((i : Int) + 1)) none = .ok (.lst ((cs.drop (i + 1)).map cD)) := by
        show Rs.ok (D.lst (cutD (cs.map cD) (some ((i : Int) + 1)) none)) = _
        have := cutD_drop (cs.map cD) (i + 1)
        rw [show (((i + 1 : Nat)) : Int) = (i : Int) + 1 by omega] at this
        rw [this, List.map_drop]
      have oc := h c (List.mem_of_getElem? hc)
      have a := pLc_mapT (β := Bool) (ps := pIter (pSl fSl (pUn (fFld "Times" "classes") (pV 0)) (pPart (pBin fAdd (pV 6) (pC (.int 1)))) pNo)) (g := gN 9) (pe := e_Times_init_1) (vs := [9]) (ρ := [.dat (tmD s e cs), .dat ss, .dat ee, .dat cl, rows, .dat (cD c), .dat (.int i), z7, z8, z9]) (xs := cs.drop (i + 1)) cD .bl (fun _ => true) (by walk_at "dl") (le_sz (by simp; omega)) (fun a ha => by
        refine ⟨_, rfl, ?_⟩
        have ha' := List.mem_of_mem_drop ha
        obtain ⟨b, hb, hb2⟩ := are_apart_is c a oc.1 (h a ha').1 oc.2 (h a ha').2
        have : b = true := hb2.mpr (by
          rw [← hci]
          have hd : cs.drop i = cs[i] :: cs.drop (i + 1) := List.drop_eq_getElem_cons hi
          have hp' := hp.sublist (List.drop_sublist i cs)
          rw [hd] at hp'
          exact (List.pairwise_cons.mp hp').1 a ha)
        subst this
        unfold e_Times_init_1
        walk_at "dl")
      generalize cs.drop (i + 1) = M at *
      have al : ((M.map fun _ => true).all id) = true := by simp
      have al2 := fAll_lst (ks := M.map fun _ => true)
      rw [al] at al2
      clear h hp hi hci oc al
      unfold l_Times_init_1
      walk_at "dk")
  refine ⟨y5, y6, ?_⟩
  unfold r_Times_init_0
  rw [e2] at e1
  have en : pEnum2 (pCons (pUn (fFld "Times" "classes") (pV 0)) pNil) [.dat (tmD s e cs), .dat ss, .dat ee, .dat cl, rows, z5, z6, z7, z8, z9] = .ok (enumD 0 (cs.map cD)) := rfl
  simp only [pFor, pWith, en, e1]
theorem times_made (s : Int) (e : Option Int) (cs : List Cl) (h : ∀ c ∈ cs, okC c ∧ c.2 < 10 ^ 99) (hp : cs.Pairwise apart) (hl : cs.length ≤ 64) (hs : 0 ≤ s) (he : ∀ i, e = some i → 0 ≤ i) : anyX f_Times_init [.int s, oi e, .lst (cs.map cD)] = .ok (tmD s e (sortC cs)) := by
  apply anyX_eq
  intro x
  obtain ⟨y5, r1⟩ := ti_rows (.pin (.ref x)) (.int s) (oi e) (.lst (cs.map cD)) .unb .unb .unb .unb cs [] .unb (fun c hc => (h c hc).1) (by simp; omega)
  rw [List.nil_append] at r1
  rw [show (([] : List Cl).map cD) = [] from rfl] at r1
  obtain ⟨w5, w6, r2⟩ := ti_apart s e (sortC cs) (.int s) (oi e) (.lst (cs.map cD)) (.own (.lst ((cs.map swC).map cD))) .unb .unb .unb (fun c hc => h c (sortC_mem.mp hc)) (sortC_apart hp) (by rw [sortC_len]; omega) y5 .unb
  have s1 := sorted_cls (xs := cs.map swC) (le_sz (by simp; omega))
  have lc := pLc_mapT (ps := pIter (pCall fSorted (pCons (pVo 4) pNil))) (g := gTp (gsCons (gN 7) (gsCons (gN 8) gsNil))) (pe := e_Times_init_0) (vs := [7, 8]) (ρ := [.pin (.ref x), .dat (.int s), .dat (oi e), .dat (.lst (cs.map cD)), .own (.lst ((cs.map swC).map cD)), y5, .unb, .unb, .unb, .unb]) (xs := (cs.map swC).mergeSort pLe) cD cD swC (by walk_at "dl") (le_sz (by simp; omega)) (fun a ha => by
    refine ⟨_, rfl, ?_⟩
    unfold e_Times_init_0
    walk_at "dl"
    rfl)
  have d1 : ¬ ("start" : Str) = "end" := by decide
  have d2 : ¬ ("start" : Str) = "classes" := by decide
  have d3 : ¬ ("end" : Str) = "classes" := by decide
  have d4 : ¬ ("end" : Str) = "start" := by decide
  have d5 : ¬ ("classes" : Str) = "end" := by decide
  have d6 : ¬ ("classes" : Str) = "start" := by decide
  have n1 : ¬ s < 0 := by omega
  have n2 : ¬ (64 : Int) < cs.length := by omega
  have mc : c_MOST_CLASSES = .int 64 := rfl
  have fin : D.ins "Times" ["start", "end", "classes"] [.int s, oi e, .lst ((((cs.map swC).mergeSort pLe).map swC).map cD)] = tmD s e (sortC cs) := rfl
  unfold f_Times_init runI p_Times_init
  cases e with
  | none =>
    have q1 : fIsNot (oi none) .non = .ok (.bl false) := rfl
    clear h hp hl hs he s1
    simp only [oi] at *
    walk_at "dk"
  | some i =>
    have q1 : fIsNot (oi (some i)) .non = .ok (.bl true) := rfl
    have q2 : ¬ i < 0 := by have := he i rfl; omega
    clear h hp hl hs he s1
    simp only [oi] at *
    walk_at "dk"
end DL
end

section
set_option linter.all false
set_option maxRecDepth 100000
set_option maxHeartbeats 4000000
set_option exponentiation.threshold 2000
namespace DL
open PySem L2
local macro_rules | `(tactic| walk_at "dl") => `(tactic| simp (disch := first | assumption | omega) [-List.map_map, pSeq, pSet, pSetO, pWith, pBin, pV, pVo, pC, pCall, pCons, pNil, pTup, pLst, pUn, pIf, pIfS, pRet, pDrop, pAsg, pPar, pAug, pApp, pFrz, frzE, pB, pTr, pNot, pAnd, pOr, pAndV, pOrV, pNotV, pNotT, pChain, pNext, pFn, arity, pIter, pFor, pRg1, pRg2, pSl, pNo, pPart, pWhile, fuelI, pIsi, pIsiT, tyN, isiOk, isiB, isiAny, pLc, pYes, lcL, wipeE, pMeth, qStm, qFld, qPut, qKeep, qRest, pEnum2, enumOf, enumD, sz_eq, pDPutT, dKeys, dKey, pBestD, pIsC, List.getElem?_cons_zero, List.getElem?_cons_succ, *])
local macro_rules | `(tactic| walk_at "dk") => `(tactic| simp (disch := first | assumption | omega) [-List.map_map, pSeq, pSet, pSetO, pWith, pBin, pV, pVo, pC, pCall, pCons, pNil, pTup, pLst, pUn, pIf, pIfS, pRet, pDrop, pAsg, pPar, pAug, pApp, pFrz, frzE, pB, pTr, pNot, pAnd, pOr, pAndV, pOrV, pNotV, pNotT, pChain, pNext, pFn, arity, pIter, pFor, pRg1, pRg2, pSl, pNo, pPart, pWhile, fuelI, pIsi, pIsiT, tyN, isiOk, isiB, isiAny,  qStm, qFld, qPut, qKeep, qRest, pEnum2, enumOf, enumD, sz_eq, pDPutT, dKeys, dKey, pBestD, pIsC, wipeE, List.getElem?_cons_zero, List.getElem?_cons_succ, *])
def wB (s : Int) (e : Option Int) (t : Int) : Bool := decide (s ≤ t) && (match e with | none => true | some i => decide (t ≤ i))
def inT (s : Int) (e : Option Int) (cs : List Cl) (t : Int) : Prop := wB s e t = true ∧ inL cs t
theorem within_is (s : Int) (e : Option Int) (cs : List Cl) (t : Int) : f_Times_is_within [tmD s e cs, .int t] = .ok (.bl (wB s e t)) := by
  have e1 := @tm_start s e cs
  have e2 := @tm_end s e cs
  generalize tmD s e cs = T at *
  unfold f_Times_is_within runF p_Times_is_within wB
  cases e with
  | none =>
    have q : fIs .non .non = .ok (.bl true) := rfl
    simp only [oi] at *
    by_cases h : s ≤ t
    · walk_at "dk"
    · walk_at "dk"
  | some i =>
    have q : fIs (.int i) .non = .ok (.bl false) := rfl
    simp only [oi] at *
    by_cases h : s ≤ t
    · walk_at "dk"
    · walk_at "dk"
def anyB (cs : List Cl) (t : Int) : Bool := cs.any fun c => decide (t % c.2 = c.1)
theorem anyB_iff {cs : List Cl} {t : Int} : anyB cs t = true ↔ inL cs t := by
  unfold anyB inL inC
  rw [List.any_eq_true]
  constructor
  · rintro ⟨c, h, e⟩; exact ⟨c, h, of_decide_eq_true e⟩
  · rintro ⟨c, h, e⟩; exact ⟨c, h, decide_eq_true e⟩
theorem tm_meth {s : Int} {e : Option Int} {cs : List Cl} {m : Str} {f : List D → Rs D} {q : Ev → Rs (List D)} {p : Ev → Rs D} {ρ : Ev} (h : p ρ = .ok (tmD s e cs)) (hm : m ∉ (["start", "end", "classes"] : List Str)) : pMeth "Times" m f p q ρ = (q ρ).bind fun ds => f (tmD s e cs :: ds) := by
  unfold pMeth
  rw [h]
  show (if (("Times" : Str) = "Times" ∧ m ∉ (["start", "end", "classes"] : List Str)) then _ else _) = _
  rw [if_pos ⟨rfl, hm⟩]; rfl
theorem holds_is (s : Int) (e : Option Int) (cs : List Cl) (t : Int) (h : ∀ c ∈ cs, okC c) (hl : cs.length ≤ 100000) : f_Times_holds [tmD s e cs, .int t] = .ok (.bl (wB s e t && anyB cs t)) := by
  have e3 := @tm_classes s e cs
  have w := within_is s e cs t
  have lc := pLc_mapT (β := Bool) (ps := pIter (pUn (fFld "Times" "classes") (pV 0))) (g := gTp (gsCons (gN 2) (gsCons (gN 3) gsNil))) (pe := e_Times_holds_0) (vs := [2, 3]) (ρ := [.dat (tmD s e cs), .dat (.int t), .unb, .unb]) (xs := cs) cD .bl (fun c => decide (t % c.2 = c.1)) (by walk_at "dk") (le_sz (by omega)) (fun a ha => by
    have ho := h a ha
    have p : 0 < a.2 := by have := ho.1; have := ho.2; omega
    refine ⟨_, rfl, ?_⟩
    unfold e_Times_holds_0
    walk_at "dk")
  have fa := fAny_lst (ks := cs.map fun c => decide (t % c.2 = c.1))
  rw [List.any_map] at fa
  have m := tm_meth (s := s) (e := e) (cs := cs) (m := "is_within") (f := arity 2 f_Times_is_within) (q := pCons (pV 1) pNil) (p := pV 0) (ρ := [.dat (tmD s e cs), .dat (.int t), .unb, .unb]) rfl (by decide)
  have m2 : pMeth "Times" "is_within" (arity 2 f_Times_is_within) (pV 0) (pCons (pV 1) pNil) [.dat (tmD s e cs), .dat (.int t), .unb, .unb] = .ok (.bl (wB s e t)) := by
    rw [m, ← w]; rfl
  unfold f_Times_holds runF p_Times_holds
  have ab : (cs.any (id ∘ fun c => decide (t % c.2 = c.1))) = anyB cs t := rfl
  rw [ab] at fa
  cases q : wB s e t with
  | false =>
    rw [q] at m2
    simp [pSeq, pIfS, pWith, pNot, pTr, m2, pRet, pC]
  | true =>
    rw [q] at m2
    simp [-List.map_map, pSeq, pIfS, pWith, pNot, pTr, m2, pRet, pC, pNext, pCall, pCons, pNil, lc, fa]
/-! ## next_from -/
def NextOf (P : Int → Prop) (t : Int) : Option Int → Prop
  | none => ∀ u, t ≤ u → ¬ P u
  | some n => t ≤ n ∧ P n ∧ ∀ u, t ≤ u → u < n → ¬ P u
theorem NextOf.uniq {P : Int → Prop} {t : Int} : ∀ {a b : Option Int}, NextOf P t a → NextOf P t b → a = b
  | none, none, _, _ => rfl
  | none, some n, h, ⟨h1, h2, _⟩ => absurd h2 (h n h1)
  | some n, none, ⟨h1, h2, _⟩, h => absurd h2 (h n h1)
  | some n, some m, ⟨a1, a2, a3⟩, ⟨b1, b2, b3⟩ => by
    by_cases q : n < m
    · exact absurd a2 (b3 n a1 q)
    · by_cases q2 : m < n
      · exact absurd b2 (a3 m b1 q2)
      · rw [show n = m by omega]
def firstC (f : Int) (c : Cl) : Int := f + (c.1 - f) % c.2
theorem firstC_le {f : Int} {c : Cl} (h : okC c) : f ≤ firstC f c := by
  have p : c.2 ≠ 0 := by have := h.1; have := h.2; omega
  have := Int.emod_nonneg (c.1 - f) p
  unfold firstC; omega
theorem firstC_in {f : Int} {c : Cl} (h : okC c) : inC c (firstC f c) := by
  rw [inC_iff h]
  have := Int.emod_add_mul_ediv (c.1 - f) c.2
  exact ⟨-((c.1 - f) / c.2), by unfold firstC; rw [Int.mul_neg]; omega⟩
theorem firstC_least {f u : Int} {c : Cl} (h : okC c) (hu : f ≤ u) (hi : inC c u) : firstC f c ≤ u := by
  rw [inC_iff h] at hi
  have p : 0 < c.2 := by have := h.1; have := h.2; omega
  have h2 := (inC_iff h).mp (firstC_in (f := f) h)
  obtain ⟨k, hk⟩ := Int.dvd_sub hi h2
  have hlt := Int.emod_lt_of_pos (c.1 - f) p
  by_cases q : 0 ≤ k
  · have := Int.mul_nonneg (Int.le_of_lt p) q
    omega
  · exfalso
    have := Int.mul_le_mul_of_nonneg_left (show k ≤ -1 by omega) (Int.le_of_lt p)
    unfold firstC at hk
    omega
theorem next_is (s : Int) (e : Option Int) (cs : List Cl) (t : Int) (h : ∀ c ∈ cs, okC c) (hl : cs.length ≤ 100000) : ∃ o, f_Times_next_from [tmD s e cs, .int t] = .ok (oi o) ∧ NextOf (inT s e cs) t o := by
  have e1 := @tm_start s e cs
  have e3 := @tm_classes s e cs
  generalize hf : (if s > t then s else t) = f
  have f1 : t ≤ f := by rw [← hf]; split <;> omega
  have f2 : s ≤ f := by rw [← hf]; split <;> omega
  have f3 : f = s ∨ f = t := by rw [← hf]; split <;> omega
  have mx : fMax2 [.int t, .int s] = .ok (.int f) := by rw [← hf]; rfl
  have lc := pLc_mapT (ps := pIter (pUn (fFld "Times" "classes") (pV 0))) (g := gTp (gsCons (gN 4) (gsCons (gN 5) gsNil))) (pe := e_Times_next_from_0) (vs := [4, 5]) (ρ := [.dat (tmD s e cs), .dat (.int t), .dat (.int f), .unb, .unb, .unb]) (xs := cs) cD .int (firstC f) (by walk_at "dk") (le_sz (by omega)) (fun a ha => by
    have ho := h a ha
    have p : 0 < a.2 := by have := ho.1; have := ho.2; omega
    refine ⟨_, rfl, ?_⟩
    unfold e_Times_next_from_0 firstC
    walk_at "dk")
  by_cases hn : cs = []
  · subst hn
    refine ⟨none, ?_, fun u _ q => inL_nil q.2⟩
    unfold f_Times_next_from runF p_Times_next_from
    simp only [List.map_nil] at lc
    simp [pSeq, pSet, pIfS, pWith, pNot, pTr, pRet, pC, pNext, pCall, pCons, pNil, pV, pUn, e1, mx, lc, pOr, oi]
  · have ne : cs.map (firstC f) ≠ [] := by simpa using hn
    obtain ⟨m, m1, m2, m3⟩ := min_ints (d := .lst ((cs.map (firstC f)).map .int)) rfl ne
    obtain ⟨c, hc, rfl⟩ := List.mem_map.mp m1
    have w := within_is s e cs (firstC f c)
    have mm : pMeth "Times" "is_within" (arity 2 f_Times_is_within) (pV 0) (pCons (pCall fMin (pCons (pV 3) pNil)) pNil) [.dat (tmD s e cs), .dat (.int t), .dat (.int f), .dat (.lst ((cs.map (firstC f)).map .int)), .unb, .unb] = .ok (.bl (wB s e (firstC f c))) := by
      rw [tm_meth (s := s) (e := e) (cs := cs) rfl (by decide)]
      simp only [pCons, pCall, pV, pNil, List.getElem?_cons_zero, List.getElem?_cons_succ, Rs.bind, m3, arity]
      exact w
    have tr : tru (.lst ((cs.map (firstC f)).map .int)) = .ok true := by
      cases cs with
      | nil => exact absurd rfl hn
      | cons a l => rfl
    have low : ∀ u, t ≤ u → inT s e cs u → firstC f c ≤ u := fun u hu q => by
      obtain ⟨w, d, hd, hi⟩ := q
      have su : s ≤ u := of_decide_eq_true (Bool.and_eq_true_iff.mp w).1
      have := firstC_least (h d hd) (show f ≤ u by omega) hi
      have := m2 _ (List.mem_map_of_mem hd)
      omega
    unfold f_Times_next_from runF p_Times_next_from
    cases q : wB s e (firstC f c) with
    | false =>
      rw [q] at mm
      refine ⟨none, by simp [-List.map_map, pSeq, pSet, pIfS, pWith, pNot, pTr, pRet, pC, pNext, pCall, pCons, pNil, pV, pUn, e1, mx, lc, pOr, oi, tr] at mm ⊢; simp [-List.map_map, mm], fun u hu z => ?_⟩
      have lo := low u hu z
      have z1 := z.1
      unfold wB at q z1
      rw [Bool.and_eq_true] at z1
      have sf : s ≤ firstC f c := Int.le_trans f2 (firstC_le (h c hc))
      rw [decide_eq_true sf, Bool.true_and] at q
      cases e with
      | none => cases q
      | some i =>
        have q := of_decide_eq_false q
        have z2 := of_decide_eq_true z1.2
        omega
    | true =>
      rw [q] at mm
      exact ⟨some (firstC f c), by simp [-List.map_map, pSeq, pSet, pIfS, pWith, pNot, pTr, pRet, pC, pNext, pCall, pCons, pNil, pV, pUn, e1, mx, lc, pOr, oi, tr] at mm ⊢; simp [-List.map_map, mm, m3], Int.le_trans f1 (firstC_le (h c hc)), ⟨q, c, hc, firstC_in (h c hc)⟩, fun u hu hlt z => by have := low u hu z; omega⟩
end DL
end

section
set_option linter.all false
set_option maxRecDepth 100000
set_option maxHeartbeats 4000000
set_option exponentiation.threshold 2000
namespace DL
open PySem L2
local macro_rules | `(tactic| walk_at "dl") => `(tactic| simp (disch := first | assumption | omega) [-List.map_map, pSeq, pSet, pSetO, pWith, pBin, pV, pVo, pC, pCall, pCons, pNil, pTup, pLst, pUn, pIf, pIfS, pRet, pDrop, pAsg, pPar, pAug, pApp, pFrz, frzE, pB, pTr, pNot, pAnd, pOr, pAndV, pOrV, pNotV, pNotT, pChain, pNext, pFn, arity, pIter, pFor, pRg1, pRg2, pSl, pNo, pPart, pWhile, fuelI, pIsi, pIsiT, tyN, isiOk, isiB, isiAny, pLc, pYes, lcL, wipeE, pMeth, qStm, qFld, qPut, qKeep, qRest, pEnum2, enumOf, enumD, sz_eq, pDPutT, dKeys, dKey, pBestD, pIsC, List.getElem?_cons_zero, List.getElem?_cons_succ, *])
local macro_rules | `(tactic| walk_at "dk") => `(tactic| simp (disch := first | assumption | omega) [-List.map_map, pSeq, pSet, pSetO, pWith, pBin, pV, pVo, pC, pCall, pCons, pNil, pTup, pLst, pUn, pIf, pIfS, pRet, pDrop, pAsg, pPar, pAug, pApp, pFrz, frzE, pB, pTr, pNot, pAnd, pOr, pAndV, pOrV, pNotV, pNotT, pChain, pNext, pFn, arity, pIter, pFor, pRg1, pRg2, pSl, pNo, pPart, pWhile, fuelI, pIsi, pIsiT, tyN, isiOk, isiB, isiAny,  qStm, qFld, qPut, qKeep, qRest, pEnum2, enumOf, enumD, sz_eq, pDPutT, dKeys, dKey, pBestD, pIsC, wipeE, List.getElem?_cons_zero, List.getElem?_cons_succ, *])
/-! ## number_to -/
def cntC (s last : Int) (c : Cl) : Int := if firstC s c ≤ last then (last - firstC s c) / c.2 + 1 else 0
def lastM (e : Option Int) (t : Int) : Int := match e with | none => t | some i => if i < t then i else t
def numM (s : Int) (e : Option Int) (cs : List Cl) (t : Int) : Int := (cs.map (cntC s (lastM e t))).sum
theorem nt_loop (s : Int) (e : Option Int) (cs : List Cl) (t : D) (last : Int) : ∀ (L : List Cl) (tot : Int) (z4 z5 z6 : EV), (∀ c ∈ L, okC c ∧ c.2 < 10 ^ 99) → ∃ y4 y5 y6,
    forL (gTp (gsCons (gN 4) (gsCons (gN 5) gsNil))) l_Times_number_to_0 (L.map cD) [.dat (tmD s e cs), .dat t, .dat (.int last), .dat (.int tot), z4, z5, z6] = .nx [.dat (tmD s e cs), .dat t, .dat (.int last), .dat (.int (tot + (L.map (cntC s last)).sum)), y4, y5, y6]
  | [], tot, z4, z5, z6, _ => ⟨z4, z5, z6, by simp⟩
  | c :: L, tot, z4, z5, z6, h => by
    obtain ⟨y4, y5, y6, r⟩ := nt_loop s e cs t last L (tot + cntC s last c) (.dat (.int c.1)) (.dat (.int c.2)) (.dat (.int (firstC s c))) (fun c hc => h c (List.mem_cons_of_mem _ hc))
    refine ⟨y4, y5, y6, ?_⟩
    rw [List.map_cons, forL_step (ρ1 := [.dat (tmD s e cs), .dat t, .dat (.int last), .dat (.int tot), .dat (.int c.1), .dat (.int c.2), z6]) rfl (ρ2 := [.dat (tmD s e cs), .dat t, .dat (.int last), .dat (.int (tot + cntC s last c)), .dat (.int c.1), .dat (.int c.2), .dat (.int (firstC s c))]), r]
    · simp [Int.add_assoc]
    · have e1 := @tm_start s e cs
      obtain ⟨ho, bo⟩ := h c List.mem_cons_self
      have p : 0 < c.2 := by have := ho.1; have := ho.2; omega
      have b : (10 : Int) ^ 99 < 10 ^ 200 := by decide
      have b2 := Int.lt_trans bo b
      have fd : ∀ i : Int, fDiv (.int i) (.int c.2) = .ok (.int (i / c.2)) := fun i => fDiv_ok p b2
      have fm : ∀ i : Int, fMod (.int i) (.int c.2) = .ok (.int (i % c.2)) := fun i => fMod_ok p
      have fi : ∀ i j : Int, fIAdd (.int i) (.int j) = .ok (.int (i + j)) := fun _ _ => rfl
      clear b b2 bo ho h r p
      generalize tmD s e cs = T at *
      unfold l_Times_number_to_0 cntC firstC
      by_cases q : s + (c.1 - s) % c.2 ≤ last
      · walk_at "dk"
      · walk_at "dk"
theorem number_is (s : Int) (e : Option Int) (cs : List Cl) (t : Int) (h : ∀ c ∈ cs, okC c ∧ c.2 < 10 ^ 99) : f_Times_number_to [tmD s e cs, .int t] = .ok (.int (numM s e cs t)) := by
  have e2 := @tm_end s e cs
  have e3 := @tm_classes s e cs
  obtain ⟨y4, y5, y6, r⟩ := nt_loop s e cs (.int t) (lastM e t) cs 0 .unb .unb .unb h
  rw [Int.zero_add] at r
  have fin : (cs.map (cntC s (lastM e t))).sum = numM s e cs t := rfl
  rw [fin] at r
  clear fin h
  generalize tmD s e cs = T at *
  generalize numM s e cs t = N at *
  unfold f_Times_number_to runF p_Times_number_to
  cases e with
  | none =>
    have q : fIs .non .non = .ok (.bl true) := rfl
    simp only [oi, lastM] at *
    walk_at "dk"
  | some i =>
    have q : fIs (.int i) .non = .ok (.bl false) := rfl
    have mn : fMin2 [.int t, .int i] = .ok (.int (if i < t then i else t)) := rfl
    simp only [oi, lastM] at *
    generalize (if i < t then i else t) = la at *
    simp [-List.map_map, pSeq, pSet, pWith, pIf, pB, pBin, pUn, pV, pC, e2, e3, q, pCall, pCons, pNil, mn, pFor, pIter, r, pRet]
theorem div_step {a m : Int} (hm : 0 < m) : (a + 1) / m = a / m + (if (a + 1) % m = 0 then 1 else 0) := by
  have h1 := Int.emod_add_mul_ediv a m
  have h2 := Int.emod_nonneg a (show m ≠ 0 by omega)
  have h3 := Int.emod_lt_of_pos a hm
  split
  · rename_i q
    by_cases c : a % m + 1 = m
    · have e : a + 1 = m * (a / m + 1) := by rw [Int.mul_add]; omega
      rw [e, Int.mul_ediv_cancel_left _ (by omega)]
    · exfalso
      have e : a + 1 = (a % m + 1) + m * (a / m) := by omega
      rw [e, Int.add_mul_emod_self_left, Int.emod_eq_of_lt (by omega) (by omega)] at q
      omega
  · rename_i q
    have c : a % m + 1 < m := by
      by_cases c : a % m + 1 = m
      · exfalso; apply q
        have e : a + 1 = m * (a / m + 1) := by rw [Int.mul_add]; omega
        rw [e]; exact Int.mul_emod_right _ _
      · omega
    have e : a + 1 = (a % m + 1) + m * (a / m) := by omega
    rw [e, Int.add_mul_ediv_left _ _ (by omega), Int.ediv_eq_zero_of_lt (by omega) c]
    omega
theorem cntC_step {s last : Int} {c : Cl} (h : okC c) : cntC s last c = cntC s (last - 1) c + (if s ≤ last ∧ inC c last then 1 else 0) := by
  have p : 0 < c.2 := by have := h.1; have := h.2; omega
  have f1 := firstC_le (f := s) h
  have f2 := firstC_in (f := s) h
  have f3 : s ≤ last → inC c last → firstC s c ≤ last := firstC_least h
  unfold cntC
  by_cases a : firstC s c ≤ last - 1
  · rw [if_pos a, if_pos (by omega)]
    have e : last - firstC s c = (last - 1 - firstC s c) + 1 := by omega
    rw [e, div_step p]
    have iff : ((last - 1 - firstC s c + 1) % c.2 = 0) ↔ (s ≤ last ∧ inC c last) := by
      rw [← e]
      constructor
      · intro q
        refine ⟨by omega, (inC_iff h).mpr ?_⟩
        have := Int.dvd_add (Int.dvd_of_emod_eq_zero q) ((inC_iff h).mp f2)
        rwa [show last - firstC s c + (firstC s c - c.1) = last - c.1 by omega] at this
      · rintro ⟨_, q⟩
        apply Int.emod_eq_zero_of_dvd
        have := Int.dvd_sub ((inC_iff h).mp q) ((inC_iff h).mp f2)
        rwa [show last - c.1 - (firstC s c - c.1) = last - firstC s c by omega] at this
    by_cases z : s ≤ last ∧ inC c last
    · rw [if_pos (iff.mpr z), if_pos z]; try omega
    · rw [if_neg (fun y => z (iff.mp y)), if_neg z]; try omega
  · rw [if_neg a]
    by_cases b : firstC s c ≤ last
    · have eq : firstC s c = last := by omega
      rw [if_pos b, eq, Int.sub_self, Int.zero_ediv]
      have z : s ≤ last ∧ inC c last := ⟨by omega, by rw [← eq]; exact f2⟩
      rw [if_pos z]
    · rw [if_neg b]
      have z : ¬ (s ≤ last ∧ inC c last) := fun ⟨y1, y2⟩ => b (f3 y1 y2)
      rw [if_neg z]; rfl
theorem sum_step {s last : Int} : ∀ {cs : List Cl}, (∀ c ∈ cs, okC c) → cs.Pairwise apart → (cs.map (cntC s last)).sum = (cs.map (cntC s (last - 1))).sum + (if s ≤ last ∧ anyB cs last = true then 1 else 0)
  | [], _, _ => by
    have : ¬ (s ≤ last ∧ anyB [] last = true) := fun z => inL_nil (anyB_iff.mp z.2)
    rw [if_neg this]; rfl
  | c :: cs, h, hp => by
    obtain ⟨p1, p2⟩ := List.pairwise_cons.mp hp
    rw [List.map_cons, List.map_cons, List.sum_cons, List.sum_cons, sum_step (fun d hd => h d (List.mem_cons_of_mem _ hd)) p2, cntC_step (h c List.mem_cons_self)]
    have key : (if s ≤ last ∧ inC c last then 1 else 0) + (if s ≤ last ∧ anyB cs last = true then 1 else 0) = (if s ≤ last ∧ anyB (c :: cs) last = true then 1 else (0 : Int)) := by
      have ac : (anyB (c :: cs) last = true) ↔ (inC c last ∨ anyB cs last = true) := by rw [anyB_iff, inL_cons, anyB_iff]
      by_cases a : s ≤ last
      · by_cases b : inC c last
        · have n : ¬ anyB cs last = true := fun z => by
            obtain ⟨d, hd, hi⟩ := anyB_iff.mp z
            exact p1 d hd last ⟨b, hi⟩
          rw [if_pos ⟨a, b⟩, if_neg (fun z => n z.2), if_pos ⟨a, ac.mpr (.inl b)⟩]; rfl
        · rw [if_neg (fun z => b z.2)]
          by_cases d : anyB cs last = true
          · rw [if_pos ⟨a, d⟩, if_pos ⟨a, ac.mpr (.inr d)⟩]; rfl
          · rw [if_neg (fun z => d z.2), if_neg (fun z => (ac.mp z.2).elim b d)]; rfl
      · rw [if_neg (fun z => a z.1), if_neg (fun z => a z.1), if_neg (fun z => a z.1)]; rfl
    omega
theorem numM_step {s : Int} {e : Option Int} {cs : List Cl} (h : ∀ c ∈ cs, okC c) (hp : cs.Pairwise apart) (t : Int) : numM s e cs t = numM s e cs (t - 1) + (if (wB s e t && anyB cs t) = true then 1 else 0) := by
  unfold numM
  cases e with
  | none =>
    simp only [lastM]
    rw [sum_step h hp]
    have iff : ((wB s none t && anyB cs t) = true) ↔ s ≤ t ∧ anyB cs t = true := by unfold wB; simp
    by_cases z : s ≤ t ∧ anyB cs t = true
    · rw [if_pos z, if_pos (iff.mpr z)]
    · rw [if_neg z, if_neg (fun y => z (iff.mp y))]
  | some i =>
    have iff : ((wB s (some i) t && anyB cs t) = true) ↔ (s ≤ t ∧ t ≤ i) ∧ anyB cs t = true := by unfold wB; simp
    by_cases q : t ≤ i
    · have e1 : lastM (some i) t = t := by unfold lastM; simp only; split <;> omega
      have e2 : lastM (some i) (t - 1) = t - 1 := by unfold lastM; simp only; split <;> omega
      rw [e1, e2, sum_step h hp]
      by_cases z : s ≤ t ∧ anyB cs t = true
      · rw [if_pos z, if_pos (iff.mpr ⟨⟨z.1, q⟩, z.2⟩)]
      · rw [if_neg z, if_neg (fun y => z ⟨(iff.mp y).1.1, (iff.mp y).2⟩)]
    · have e1 : lastM (some i) t = i := by unfold lastM; simp only; split <;> omega
      have e2 : lastM (some i) (t - 1) = i := by unfold lastM; simp only; split <;> omega
      rw [e1, e2, if_neg (fun y => q (iff.mp y).1.2)]; omega
theorem numM_before {s : Int} {e : Option Int} {cs : List Cl} (h : ∀ c ∈ cs, okC c) (t : Int) (ht : t < s) : numM s e cs t = 0 := by
  have hl : lastM e t < s := by
    unfold lastM
    cases e with
    | none => exact ht
    | some i => simp only; split <;> omega
  unfold numM
  generalize lastM e t = la at hl
  induction cs with
  | nil => rfl
  | cons c cs ih =>
    rw [List.map_cons, List.sum_cons, ih fun d hd => h d (List.mem_cons_of_mem _ hd)]
    have := firstC_le (f := s) (h c List.mem_cons_self)
    unfold cntC
    rw [if_neg (by omega)]; rfl
/-! ## is_empty -/
theorem empty_is (s : Int) (e : Option Int) (cs : List Cl) (h : ∀ c ∈ cs, okC c) (hl : cs.length ≤ 100000) : ∃ b, f_Times_is_empty [tmD s e cs] = .ok (.bl b) ∧ (b = true ↔ ∀ t, ¬ inT s e cs t) := by
  obtain ⟨o, e1, n⟩ := next_is s e cs s h hl
  have m := tm_meth (s := s) (e := e) (cs := cs) (m := "next_from") (f := arity 2 f_Times_next_from) (q := pCons (pUn (fFld "Times" "start") (pV 0)) pNil) (p := pV 0) (ρ := [.dat (tmD s e cs)]) rfl (by decide)
  have m2 : pMeth "Times" "next_from" (arity 2 f_Times_next_from) (pV 0) (pCons (pUn (fFld "Times" "start") (pV 0)) pNil) [.dat (tmD s e cs)] = .ok (oi o) := by
    rw [m, ← e1]; rfl
  have after : ∀ t, inT s e cs t → s ≤ t := fun t z => of_decide_eq_true (Bool.and_eq_true_iff.mp z.1).1
  cases o with
  | none =>
    refine ⟨true, ?_, ⟨fun _ t z => n t (after t z) z, fun _ => rfl⟩⟩
    unfold f_Times_is_empty runF p_Times_is_empty
    show (match (pWith (pBin fIs (pMeth "Times" "next_from" (arity 2 f_Times_next_from) (pV 0) (pCons (pUn (fFld "Times" "start") (pV 0)) pNil)) (pC .non)) (fun d _ => Fl.rt d) [.dat (tmD s e cs)]) with | .nx _ => Rs.ok D.non | .rt d => .ok d | .err c x _ => .err c x | _ => .no) = _
    simp only [pWith, pBin, m2]
    rfl
  | some k =>
    refine ⟨false, ?_, ⟨fun z => (Bool.false_ne_true z).elim, fun z => absurd n.2.1 (z k)⟩⟩
    unfold f_Times_is_empty runF p_Times_is_empty
    show (match (pWith (pBin fIs (pMeth "Times" "next_from" (arity 2 f_Times_next_from) (pV 0) (pCons (pUn (fFld "Times" "start") (pV 0)) pNil)) (pC .non)) (fun d _ => Fl.rt d) [.dat (tmD s e cs)]) with | .nx _ => Rs.ok D.non | .rt d => .ok d | .err c x _ => .err c x | _ => .no) = _
    simp only [pWith, pBin, m2]
    rfl
end DL
end

section
set_option linter.all false
set_option maxRecDepth 100000
set_option maxHeartbeats 4000000
set_option exponentiation.threshold 2000
namespace DL
open PySem L2
local macro_rules | `(tactic| walk_at "dl") => `(tactic| simp (disch := first | assumption | omega) [-List.map_map, pSeq, pSet, pSetO, pWith, pBin, pV, pVo, pC, pCall, pCons, pNil, pTup, pLst, pUn, pIf, pIfS, pRet, pDrop, pAsg, pPar, pAug, pApp, pFrz, frzE, pB, pTr, pNot, pAnd, pOr, pAndV, pOrV, pNotV, pNotT, pChain, pNext, pFn, arity, pIter, pFor, pRg1, pRg2, pSl, pNo, pPart, pWhile, fuelI, pIsi, pIsiT, tyN, isiOk, isiB, isiAny, pLc, pYes, lcL, wipeE, pMeth, qStm, qFld, qPut, qKeep, qRest, pEnum2, enumOf, enumD, sz_eq, pDPutT, dKeys, dKey, pBestD, pIsC, List.getElem?_cons_zero, List.getElem?_cons_succ, *])
local macro_rules | `(tactic| walk_at "dk") => `(tactic| simp (disch := first | assumption | omega) [-List.map_map, pSeq, pSet, pSetO, pWith, pBin, pV, pVo, pC, pCall, pCons, pNil, pTup, pLst, pUn, pIf, pIfS, pRet, pDrop, pAsg, pPar, pAug, pApp, pFrz, frzE, pB, pTr, pNot, pAnd, pOr, pAndV, pOrV, pNotV, pNotT, pChain, pNext, pFn, arity, pIter, pFor, pRg1, pRg2, pSl, pNo, pPart, pWhile, fuelI, pIsi, pIsiT, tyN, isiOk, isiB, isiAny,  qStm, qFld, qPut, qKeep, qRest, pEnum2, enumOf, enumD, sz_eq, pDPutT, dKeys, dKey, pBestD, pIsC, wipeE, List.getElem?_cons_zero, List.getElem?_cons_succ, *])
theorem bls_map {α : Type} (f : α → Bool) : ∀ l : List α, blsOf (l.map fun c => .bl (f c)) = some (l.map f)
  | [] => rfl
  | a :: l => by
    show (blsOf (l.map fun c => .bl (f c))).map _ = _
    rw [bls_map f l]; rfl
def goodC (c : Nat) : Bool := strIn ⟨#[c]⟩ "abcdefghijklmnopqrstuvwxyz0123456789"
theorem all_good (t : Str) (ρ : Ev) (hρ : ∀ c : Nat, ∃ ρ1, gN 1 (.str ⟨#[c]⟩) ρ = some ρ1 ∧ e_is_name_0 ρ1 = .ok (.bl (goodC c))) : lcL (gN 1) pYes e_is_name_0 ρ (t.cps.toList.map fun c => .str ⟨#[c]⟩) = some (t.cps.toList.map fun c => .bl (goodC c)) := by
  generalize t.cps.toList = l
  induction l with
  | nil => rfl
  | cons c l ih =>
    obtain ⟨ρ1, h1, h2⟩ := hρ c
    rw [List.map_cons, List.map_cons]
    unfold lcL
    rw [h1]
    simp only [pYes]
    rw [h2, ih]; rfl
def firstS (t : Str) : Str := ⟨#[t.cps.getD 0 0]⟩
def nameM (t : Str) : Bool := decide (1 ≤ t.cps.size ∧ t.cps.size ≤ 12) && !strIn (firstS t) "0123456789" && t.cps.toList.all goodC
theorem good_is (c : Nat) (x : EV) : e_is_name_0 [x, .dat (.str ⟨#[c]⟩)] = .ok (.bl (goodC c)) := by
  show (Rs.ok (D.bl (false ^^ strIn ⟨#[c]⟩ "abcdefghijklmnopqrstuvwxyz0123456789")) : Rs D) = _
  unfold goodC
  simp
theorem str_ix0 (t : Str) (h0 : 1 ≤ t.cps.size) (h1 : t.cps.size ≤ 12) : fIx (.str t) (.int 0) = .ok (.str (firstS t)) := by
  have hs : t.length ≤ sizeLine := by rw [sizeLine_eq]; show t.cps.size ≤ _; omega
  have hl : 0 < t.cps.toList.length := by simp; omega
  have e : atI t.cps.toList 0 = some (t.cps.getD 0 0) := by
    unfold atI
    rw [show (0 : Int) = ((0 : Nat) : Int) from rfl, ixN_nat hl]
    have h0b : 0 < t.cps.size := h0
    simp [Array.getD, h0b]
  show (if t.length ≤ sizeLine then (match atI t.cps.toList 0 with | some c => Rs.ok (D.str ⟨#[c]⟩) | none => .no) else .no) = _
  rw [if_pos hs, e]; rfl
theorem is_name_is (t : Str) (h : t.cps.size ≤ 20) : f_is_name [.str t] = .ok (.bl (nameM t)) := by
  have hs : t.length ≤ sizeLine := by rw [sizeLine_eq]; show t.cps.size ≤ _; omega
  have hlen : fLen [.str t] = .ok (.int t.cps.size) := by
    show (if t.length ≤ sizeLine then Rs.ok (D.int t.length) else .no) = _
    rw [if_pos hs]; rfl
  have it : iterD (.str t) = some (t.cps.toList.map fun c => .str ⟨#[c]⟩) := rfl
  have hl : (t.cps.toList.map fun c => D.str ⟨#[c]⟩).length ≤ sizeLine := by rw [sizeLine_eq]; simp; omega
  have ag := all_good t [.dat (.str t), .unb] (fun c => ⟨_, rfl, good_is c _⟩)
  have fa : fAll [.lst (t.cps.toList.map fun c => .bl (goodC c))] = .ok (.bl (t.cps.toList.all goodC)) := by
    show (match blsOf (t.cps.toList.map fun c => .bl (goodC c)) with | some ns => Rs.ok (D.bl (ns.all id)) | none => .no) = _
    rw [bls_map]; simp [List.all_map]
  have fin : ∀ b : Bool, strIn (firstS t) "0123456789" = b → fIn2 false (.str (firstS t)) (.str "0123456789") = .ok (.bl b) := fun b hb => by
    show Rs.ok (D.bl (false ^^ strIn (firstS t) "0123456789")) = _
    rw [hb]; simp
  have hz : t.cps.size ≤ 16777216 := by omega
  have fa2 : fAll [.lst (t.cps.toList.map fun c => .bl (goodC c))] = .ok (.bl (t.cps.all goodC)) := by rw [fa]; simp
  clear fa
  unfold f_is_name runF p_is_name nameM
  by_cases a : 1 ≤ t.cps.size ∧ t.cps.size ≤ 12
  · have ix := str_ix0 t a.1 a.2
    have b1 : (1 : Int) ≤ (t.cps.size : Int) := by omega
    have b2 : (t.cps.size : Int) ≤ 12 := by omega
    cases hf : strIn (firstS t) "0123456789"
    · have f := fin _ hf
      clear fin hf
      simp [pSeq, pWith, pBin, pV, pC, pCall, pCons, pNil, pIfS, pRet, pB, pTr, pNot, pOr, pChain, pNext, pIter, pLc, wipeE, sz_eq, *]
    · have f := fin _ hf
      clear fin hf
      simp [pSeq, pWith, pBin, pV, pC, pCall, pCons, pNil, pIfS, pRet, pB, pTr, pNot, pOr, pChain, pNext, pIter, pLc, wipeE, sz_eq, *]
  · clear fin
    by_cases b1 : (1 : Int) ≤ (t.cps.size : Int)
    · have b2 : ¬ (t.cps.size : Int) ≤ 12 := by omega
      simp [pSeq, pWith, pBin, pV, pC, pCall, pCons, pNil, pIfS, pRet, pB, pTr, pNot, pOr, pChain, pNext, pIter, pLc, wipeE, sz_eq, *]
    · simp [pSeq, pWith, pBin, pV, pC, pCall, pCons, pNil, pIfS, pRet, pB, pTr, pNot, pOr, pChain, pNext, pIter, pLc, wipeE, sz_eq, *]
/-! ## tables -/
def tabP (w h : Int) (pk : D) : D := .ins "Table" ["width", "height", "pockets"] [.int w, .int h, pk]
@[simp] theorem tab_w {w h : Int} {pk : D} : fFld "Table" "width" (tabP w h pk) = .ok (.int w) := rfl
@[simp] theorem tab_h {w h : Int} {pk : D} : fFld "Table" "height" (tabP w h pk) = .ok (.int h) := rfl
@[simp] theorem tab_p {w h : Int} {pk : D} : fFld "Table" "pockets" (tabP w h pk) = .ok pk := rfl
theorem tab_meth {w h : Int} {pk : D} {m : Str} {f : List D → Rs D} {q : Ev → Rs (List D)} {p : Ev → Rs D} {ρ : Ev} (h' : p ρ = .ok (tabP w h pk)) (hm : m ∉ (["width", "height", "pockets"] : List Str)) : pMeth "Table" m f p q ρ = (q ρ).bind fun ds => f (tabP w h pk :: ds) := by
  unfold pMeth
  rw [h']
  show (if (("Table" : Str) = "Table" ∧ m ∉ (["width", "height", "pockets"] : List Str)) then _ else _) = _
  rw [if_pos ⟨rfl, hm⟩]; rfl
theorem require_is (b : Bool) : f_require [.bl b] = if b then .ok .non else .err "InvalidTable" none := by
  unfold f_require runF p_require
  cases b <;> walk_at "dk"
def inTab (w h : Int) (p : Cl) : Bool := decide (0 ≤ p.1 ∧ p.1 ≤ w ∧ 0 ≤ p.2 ∧ p.2 ≤ h)
theorem chain_le {a b c : Int} {pa pb pc : Ev → Rs D} {ρ : Ev} (h1 : pa ρ = .ok (.int a)) (h2 : pb ρ = .ok (.int b)) (h3 : pc ρ = .ok (.int c)) : pChain fLe fLe pa pb pc ρ = .ok (.bl (decide (a ≤ b ∧ b ≤ c))) := by
  unfold pChain
  rw [h1, h2, h3]
  by_cases q : a ≤ b
  · simp [q]
  · simp [q]
theorem is_point_is (w h : Int) (pk : D) (p : Cl) : f_Table_is_point [tabP w h pk, cD p] = .ok (.bl (inTab w h p)) := by
  have e1 := @tab_w w h pk
  have e2 := @tab_h w h pk
  have c1 := chain_le (a := 0) (b := p.1) (c := w) (pa := pC (.int 0)) (pb := pBin fIx (pV 1) (pC (.int 0))) (pc := pUn (fFld "Table" "width") (pV 0)) (ρ := [.dat (tabP w h pk), .dat (cD p)]) rfl (by simp [pBin, pV, pC]) (by simp [pUn, pV])
  have c2 := chain_le (a := 0) (b := p.2) (c := h) (pa := pC (.int 0)) (pb := pBin fIx (pV 1) (pC (.int 1))) (pc := pUn (fFld "Table" "height") (pV 0)) (ρ := [.dat (tabP w h pk), .dat (cD p)]) rfl (by simp [pBin, pV, pC]) (by simp [pUn, pV])
  have key : inTab w h p = (decide (0 ≤ p.1 ∧ p.1 ≤ w) && decide (0 ≤ p.2 ∧ p.2 ≤ h)) := by
    unfold inTab
    rw [← Bool.decide_and]
    exact decide_eq_decide.mpr ⟨fun z => ⟨⟨z.1, z.2.1⟩, z.2.2⟩, fun z => ⟨z.1.1, z.1.2, z.2⟩⟩
  rw [key]
  generalize decide (0 ≤ p.1 ∧ p.1 ≤ w) = b1 at *
  generalize decide (0 ≤ p.2 ∧ p.2 ≤ h) = b2 at *
  unfold f_Table_is_point runF p_Table_is_point
  cases b1 <;> simp [pRet, pWith, pAndV, c1, c2]
theorem check_point_is (w h : Int) (pk : D) (p : Cl) : f_Table_check_point [tabP w h pk, cD p] = if inTab w h p then .ok .non else .err "InvalidQuestion" none := by
  have m := tab_meth (w := w) (h := h) (pk := pk) (m := "is_point") (f := arity 2 f_Table_is_point) (q := pCons (pV 1) pNil) (p := pV 0) (ρ := [.dat (tabP w h pk), .dat (cD p)]) rfl (by decide)
  have m2 : pMeth "Table" "is_point" (arity 2 f_Table_is_point) (pV 0) (pCons (pV 1) pNil) [.dat (tabP w h pk), .dat (cD p)] = .ok (.bl (inTab w h p)) := by
    rw [m, ← is_point_is w h pk p]; rfl
  unfold f_Table_check_point runF p_Table_check_point
  cases q : inTab w h p <;> rw [q] at m2 <;> simp [pIfS, pWith, pNot, pTr, m2, pNext]
/-! ## balls -/
structure Ball where
  t : Str
  x : Int
  y : Int
  dx : Int
  dy : Int
  m : Int
def blD (b : Ball) : D := .tup [.str b.t, .int b.x, .int b.y, .int b.dx, .int b.dy, .int b.m]
@[simp] theorem bl0 {b : Ball} : fIx (blD b) (.int 0) = .ok (.str b.t) := rfl
@[simp] theorem bl1 {b : Ball} : fIx (blD b) (.int 1) = .ok (.int b.x) := rfl
@[simp] theorem bl2 {b : Ball} : fIx (blD b) (.int 2) = .ok (.int b.y) := rfl
@[simp] theorem bl3 {b : Ball} : fIx (blD b) (.int 3) = .ok (.int b.dx) := rfl
@[simp] theorem bl4 {b : Ball} : fIx (blD b) (.int 4) = .ok (.int b.dy) := rfl
@[simp] theorem bl5 {b : Ball} : fIx (blD b) (.int 5) = .ok (.int b.m) := rfl
def stepB (d : Int) : Bool := decide (d = -1 ∨ d = 0 ∨ d = 1)
def ballM (w h : Int) (b : Ball) : Bool := nameM b.t && (inTab w h (b.x, b.y) && (decide (0 ≤ b.m ∧ b.m ≤ 10 ^ 30) && (stepB b.dx && (stepB b.dy && !decide (b.dx = 0 ∧ b.dy = 0)))))
theorem step_in (d : Int) : fIn2 false (.int d) (.tup [.int (-1), .int 0, .int 1]) = .ok (.bl (stepB d)) := by
  have e : fIn2 false (.int d) (.tup [.int (-1), .int 0, .int 1]) = .ok (.bl (false ^^ (deq (.int (-1)) (.int d) || (deq (.int 0) (.int d) || (deq (.int 1) (.int d) || false))))) := rfl
  rw [e, deq_int, deq_int, deq_int, Bool.or_false, Bool.false_xor, ← Bool.decide_or, ← Bool.decide_or]
  congr 2
  unfold stepB
  exact decide_eq_decide.mpr ⟨fun z => by omega, fun z => by omega⟩
theorem ne_00 (a b : Int) : fNe (.tup [.int a, .int b]) (.tup [.int 0, .int 0]) = .ok (.bl (!decide (a = 0 ∧ b = 0))) := by
  have := fNe_pair (a := (a, b)) (b := (0, 0))
  unfold cD at this
  rw [this]
  simp [Prod.ext_iff]
theorem is_ball_is (w h : Int) (pk : D) (b : Ball) (ht : b.t.cps.size ≤ 20) : f_is_ball [tabP w h pk, blD b] = .ok (.bl (ballM w h b)) := by
  have en := is_name_is b.t ht
  have ln : fLen [blD b] = .ok (.int 6) := rfl
  have s1 := step_in b.dx
  have s2 := step_in b.dy
  have n0 := ne_00 b.dx b.dy
  have mo : c_MOST = .int (10 ^ 30) := rfl
  have as : gTp (gsCons (gN 2) (gsCons (gN 3) (gsCons (gN 4) (gsCons (gN 5) (gsCons (gN 6) (gsCons (gN 7) gsNil)))))) (blD b) [.dat (tabP w h pk), .dat (blD b), .unb, .unb, .unb, .unb, .unb, .unb] = some [.dat (tabP w h pk), .dat (blD b), .dat (.str b.t), .dat (.int b.x), .dat (.int b.y), .dat (.int b.dx), .dat (.int b.dy), .dat (.int b.m)] := rfl
  have b0 := @bl0 b
  generalize hB : blD b = B at *
  have m := tab_meth (w := w) (h := h) (pk := pk) (m := "is_point") (f := arity 2 f_Table_is_point) (q := pCons (pTup (pCons (pV 3) (pCons (pV 4) pNil))) pNil) (p := pV 0) (ρ := [.dat (tabP w h pk), .dat B, .dat (.str b.t), .dat (.int b.x), .dat (.int b.y), .dat (.int b.dx), .dat (.int b.dy), .dat (.int b.m)]) rfl (by decide)
  have m2 : pMeth "Table" "is_point" (arity 2 f_Table_is_point) (pV 0) (pCons (pTup (pCons (pV 3) (pCons (pV 4) pNil))) pNil) [.dat (tabP w h pk), .dat B, .dat (.str b.t), .dat (.int b.x), .dat (.int b.y), .dat (.int b.dx), .dat (.int b.dy), .dat (.int b.m)] = .ok (.bl (inTab w h (b.x, b.y))) := by
    have sz : (2 : Nat) ≤ 16777216 := by decide
    rw [m, ← is_point_is w h pk (b.x, b.y)]
    simp [pCons, pTup, pV, pNil, sz_eq, arity]
    rfl
  have c1 := chain_le (a := 0) (b := b.m) (c := 10 ^ 30) (pa := pC (.int 0)) (pb := pV 7) (pc := pC c_MOST) (ρ := [.dat (tabP w h pk), .dat B, .dat (.str b.t), .dat (.int b.x), .dat (.int b.y), .dat (.int b.dx), .dat (.int b.dy), .dat (.int b.m)]) rfl rfl rfl
  generalize tabP w h pk = T at *
  clear m
  unfold f_is_ball runF p_is_ball ballM
  cases q1 : nameM b.t with
  | false =>
    rw [q1] at en
    clear m2 c1 s1 s2 n0
    walk_at "dk"
  | true =>
    rw [q1] at en
    generalize inTab w h (b.x, b.y) = i1 at *
    generalize decide (0 ≤ b.m ∧ b.m ≤ 10 ^ 30) = i2 at *
    generalize stepB b.dx = i3 at *
    generalize stepB b.dy = i4 at *
    simp [pSeq, pIfS, pWith, pOr, pB, pBin, pCall, pCons, pNil, pV, pC, ln, pNot, pTr, pFn, arity, b0, en, pNext, pAsg, as]
    cases i1 <;> simp [m2, pRet, pWith, pC]
    cases i2 <;> simp [c1, pRet, pWith, pC]
    simp [pAndV, pBin, pV, pTup, pCons, pUn, pC, pNil, s1, s2, n0, sz_eq]
    cases i3 <;> cases i4 <;> simp
theorem check_ball_is (w h : Int) (pk : D) (b : Ball) (ht : b.t.cps.size ≤ 20) : f_check_ball [tabP w h pk, blD b] = if ballM w h b then .ok .non else .err "InvalidBall" none := by
  have e := is_ball_is w h pk b ht
  generalize tabP w h pk = T at *
  generalize blD b = B at *
  unfold f_check_ball runF p_check_ball
  cases q : ballM w h b <;> rw [q] at e <;> walk_at "dk"
end DL
end

section
set_option linter.all false
set_option maxRecDepth 100000
set_option maxHeartbeats 4000000
set_option exponentiation.threshold 2000
namespace DL
open PySem L2
local macro_rules | `(tactic| walk_at "dl") => `(tactic| simp (disch := first | assumption | omega) [-List.map_map, pSeq, pSet, pSetO, pWith, pBin, pV, pVo, pC, pCall, pCons, pNil, pTup, pLst, pUn, pIf, pIfS, pRet, pDrop, pAsg, pPar, pAug, pApp, pFrz, frzE, pB, pTr, pNot, pAnd, pOr, pAndV, pOrV, pNotV, pNotT, pChain, pNext, pFn, arity, pIter, pFor, pRg1, pRg2, pSl, pNo, pPart, pWhile, fuelI, pIsi, pIsiT, tyN, isiOk, isiB, isiAny, pLc, pYes, lcL, wipeE, pMeth, qStm, qFld, qPut, qKeep, qRest, pEnum2, enumOf, enumD, sz_eq, pDPutT, dKeys, dKey, pBestD, pIsC, List.getElem?_cons_zero, List.getElem?_cons_succ, *])
local macro_rules | `(tactic| walk_at "dk") => `(tactic| simp (disch := first | assumption | omega) [-List.map_map, pSeq, pSet, pSetO, pWith, pBin, pV, pVo, pC, pCall, pCons, pNil, pTup, pLst, pUn, pIf, pIfS, pRet, pDrop, pAsg, pPar, pAug, pApp, pFrz, frzE, pB, pTr, pNot, pAnd, pOr, pAndV, pOrV, pNotV, pNotT, pChain, pNext, pFn, arity, pIter, pFor, pRg1, pRg2, pSl, pNo, pPart, pWhile, fuelI, pIsi, pIsiT, tyN, isiOk, isiB, isiAny,  qStm, qFld, qPut, qKeep, qRest, pEnum2, enumOf, enumD, sz_eq, pDPutT, dKeys, dKey, pBestD, pIsC, wipeE, List.getElem?_cons_zero, List.getElem?_cons_succ, *])
theorem tb_loop (w h : Int) (ps : List Cl) (d1 d2 d3 : EV) (hi : ∀ p ∈ ps, inTab w h p = true) (nd : ps.Nodup) (z4 z5 : EV) :
    ∃ y4 y5, r_Table_init_0 [.dat (tabP w h (.tup (ps.map cD))), d1, d2, d3, z4, z5] = .nx [.dat (tabP w h (.tup (ps.map cD))), d1, d2, d3, y4, y5] := by
  obtain ⟨ρ', e1, y4, y5, e2⟩ := forL_inv (g := gTp (gsCons (gN 5) (gsCons (gN 4) gsNil))) (body := l_Table_init_0) (ds := enumD 0 (ps.map cD)) (ρ := [.dat (tabP w h (.tup (ps.map cD))), d1, d2, d3, z4, z5])
    (fun i ρ => ∃ y4 y5, ρ = [.dat (tabP w h (.tup (ps.map cD))), d1, d2, d3, y4, y5]) ⟨z4, z5, rfl⟩ (fun i d ρ hd ⟨y4, y5, hρ⟩ => by
      subst hρ
      obtain ⟨d', hd1, rfl⟩ := enumD_get hd
      rw [List.getElem?_map] at hd1
      obtain ⟨p, hp, rfl⟩ := Option.map_eq_some_iff.mp hd1
      rw [Int.zero_add]
      refine ⟨_, [.dat (tabP w h (.tup (ps.map cD))), d1, d2, d3, .dat (cD p), .dat (.int i)], rfl, .inl ?_, ⟨_, _, rfl⟩⟩
      have hil : i < ps.length := (List.getElem?_eq_some_iff.mp hp).1
      have hci : ps[i] = p := (List.getElem?_eq_some_iff.mp hp).2
      have cut : fSl (.tup (ps.map cD)) none (some (i : Int)) = .ok (.tup ((ps.take i).map cD)) := by
        rw [fSl_tup_take (by simpa using hil), List.map_take]
      have ni : fIn2 true (cD p) (.tup ((ps.take i).map cD)) = .ok (.bl true) := by
        rw [in_pairs rfl (shp_cDs _)]
        have : ¬ p ∈ ps.take i := fun z => by
          obtain ⟨j, hj, hj2⟩ := List.mem_iff_getElem.mp z
          rw [List.getElem_take] at hj2
          rw [List.length_take] at hj
          have := (List.getElem_inj nd).mp (hj2.trans hci.symm)
          omega
        rw [decide_eq_false this]; rfl
      have m := tab_meth (w := w) (h := h) (pk := .tup (ps.map cD)) (m := "is_point") (f := arity 2 f_Table_is_point) (q := pCons (pV 4) pNil) (p := pV 0) (ρ := [.dat (tabP w h (.tup (ps.map cD))), d1, d2, d3, .dat (cD p), .dat (.int i)]) rfl (by decide)
      have m2 : pMeth "Table" "is_point" (arity 2 f_Table_is_point) (pV 0) (pCons (pV 4) pNil) [.dat (tabP w h (.tup (ps.map cD))), d1, d2, d3, .dat (cD p), .dat (.int i)] = .ok (.bl true) := by
        rw [m, ← hi p (List.mem_of_getElem? hp), ← is_point_is w h (.tup (ps.map cD)) p]; rfl
      have rq : f_require [.bl true] = .ok .non := require_is true
      have tp := @tab_p w h (.tup (ps.map cD))
      generalize tabP w h (.tup (ps.map cD)) = T at *
      generalize (ps.take i).map cD = M at *
      unfold l_Table_init_0
      simp [pDrop, pWith, pFn, pCons, pAndV, m2, pBin, pV, pSl, pUn, tp, pNo, pPart, cut, ni, pNil, arity, rq])
  refine ⟨y4, y5, ?_⟩
  unfold r_Table_init_0
  rw [e2] at e1
  have en : pEnum2 (pCons (pUn (fFld "Table" "pockets") (pV 0)) pNil) [.dat (tabP w h (.tup (ps.map cD))), d1, d2, d3, z4, z5] = .ok (enumD 0 (ps.map cD)) := rfl
  simp only [pFor, pWith, en, e1]
theorem table_made (w h : Int) (ps : List Cl) (d : D) (hd : iterD d = some (ps.map cD)) (hln : fLen [d] = .ok (.int ps.length)) (hw : 1 ≤ w) (hw2 : w ≤ 10 ^ 30) (hh : 1 ≤ h) (hh2 : h ≤ 10 ^ 30) (hl : ps.length ≤ 12) (hi : ∀ p ∈ ps, inTab w h p = true) (nd : ps.Nodup) :
    anyX f_Table_init [.int w, .int h, d] = .ok (tabP w h (.tup (ps.map cD))) := by
  apply anyX_eq
  intro x
  have rt : f_require [.bl true] = .ok .non := require_is true
  have d1 : ¬ ("width" : Str) = "height" := by decide
  have d2 : ¬ ("width" : Str) = "pockets" := by decide
  have d3 : ¬ ("height" : Str) = "pockets" := by decide
  have d4 : ¬ ("height" : Str) = "width" := by decide
  have d5 : ¬ ("pockets" : Str) = "height" := by decide
  have d6 : ¬ ("pockets" : Str) = "width" := by decide
  have mo : c_MOST = .int (10 ^ 30) := rfl
  have mp : c_MOST_POCKETS = .int 12 := rfl
  have l12 : (ps.length : Int) ≤ 12 := by omega
  have hw3 : w ≤ 1000000000000000000000000000000 := hw2
  have hh3 : h ≤ 1000000000000000000000000000000 := hh2
  have lc0 := pLc_mapT (β := Bool) (ps := pIter (pV 3)) (g := gN 4) (pe := e_Table_init_0) (vs := [4]) (ρ := [.pin (.ref x), .dat (.int w), .dat (.int h), .dat d, .unb, .unb]) (xs := ps) cD .bl (fun _ => true) (by simp [pIter, pV, hd]) (le_sz (by omega)) (fun a _ => ⟨_, rfl, rfl⟩)
  have lc1 := pLc_map (ps := pIter (pV 3)) (g := gN 4) (pe := e_Table_init_1) (vs := [4]) (ρ := [.pin (.ref x), .dat (.int w), .dat (.int h), .dat d, .unb, .unb]) (ds := ps.map cD) id (by simp [pIter, pV, hd]) (le_sz (by simp; omega)) (fun a ha => by
    obtain ⟨c, _, rfl⟩ := List.mem_map.mp ha
    exact ⟨_, rfl, rfl⟩)
  rw [List.map_id] at lc1
  have al : fAll [.lst ((ps.map fun _ => true).map .bl)] = .ok (.bl true) := by rw [fAll_lst]; simp
  obtain ⟨y4, y5, r⟩ := tb_loop w h ps (.dat (.int w)) (.dat (.int h)) (.dat d) hi nd .unb .unb
  have fin : D.ins "Table" ["width", "height", "pockets"] [.int w, .int h, .tup (ps.map cD)] = tabP w h (.tup (ps.map cD)) := rfl
  clear hi nd hd hl
  unfold f_Table_init runI p_Table_init
  walk_at "dk"
end DL
end

section
set_option linter.all false
set_option maxRecDepth 100000
set_option maxHeartbeats 4000000
set_option exponentiation.threshold 2000
namespace DL
open PySem L2
local macro_rules | `(tactic| walk_at "dl") => `(tactic| simp (disch := first | assumption | omega) [-List.map_map, pSeq, pSet, pSetO, pWith, pBin, pV, pVo, pC, pCall, pCons, pNil, pTup, pLst, pUn, pIf, pIfS, pRet, pDrop, pAsg, pPar, pAug, pApp, pFrz, frzE, pB, pTr, pNot, pAnd, pOr, pAndV, pOrV, pNotV, pNotT, pChain, pNext, pFn, arity, pIter, pFor, pRg1, pRg2, pSl, pNo, pPart, pWhile, fuelI, pIsi, pIsiT, tyN, isiOk, isiB, isiAny, pLc, pYes, lcL, wipeE, pMeth, qStm, qFld, qPut, qKeep, qRest, pEnum2, enumOf, enumD, sz_eq, pDPutT, dKeys, dKey, pBestD, pIsC, List.getElem?_cons_zero, List.getElem?_cons_succ, *])
local macro_rules | `(tactic| walk_at "dk") => `(tactic| simp (disch := first | assumption | omega) [-List.map_map, pSeq, pSet, pSetO, pWith, pBin, pV, pVo, pC, pCall, pCons, pNil, pTup, pLst, pUn, pIf, pIfS, pRet, pDrop, pAsg, pPar, pAug, pApp, pFrz, frzE, pB, pTr, pNot, pAnd, pOr, pAndV, pOrV, pNotV, pNotT, pChain, pNext, pFn, arity, pIter, pFor, pRg1, pRg2, pSl, pNo, pPart, pWhile, fuelI, pIsi, pIsiT, tyN, isiOk, isiB, isiAny,  qStm, qFld, qPut, qKeep, qRest, pEnum2, enumOf, enumD, sz_eq, pDPutT, dKeys, dKey, pBestD, pIsC, wipeE, List.getElem?_cons_zero, List.getElem?_cons_succ, *])
/-! ## the fold -/
def foM (s p : Int) : Int := if 2 * s - p % (2 * s) < p % (2 * s) then 2 * s - p % (2 * s) else p % (2 * s)
theorem foM_rng {s p : Int} (hs : 0 < s) : 0 ≤ foM s p ∧ foM s p ≤ s := by
  have r0 := Int.emod_nonneg p (show 2 * s ≠ 0 by omega)
  have r1 := Int.emod_lt_of_pos p (show 0 < 2 * s by omega)
  unfold foM
  split <;> omega
theorem foM_iff {s p g : Int} (hs : 0 < s) (h0 : 0 ≤ g) (h1 : g ≤ s) : foM s p = g ↔ 2 * s ∣ p - g ∨ 2 * s ∣ p + g := by
  have r0 := Int.emod_nonneg p (show 2 * s ≠ 0 by omega)
  have r1 := Int.emod_lt_of_pos p (show 0 < 2 * s by omega)
  have a := emod_iff (t := p) (x := g) (m := 2 * s) h0 (by omega)
  have b : 2 * s ∣ p + g ↔ (p % (2 * s) = 2 * s - g ∨ (g = 0 ∧ p % (2 * s) = 0)) := by
    by_cases z : g = 0
    · subst z
      have a0 := emod_iff (t := p) (x := 0) (m := 2 * s) (by omega) (by omega)
      rw [Int.sub_zero] at a0
      rw [Int.add_zero, ← a0]
      constructor
      · intro q; exact .inr ⟨rfl, q⟩
      · rintro (q | q)
        · omega
        · exact q.2
    · have a1 := emod_iff (t := p) (x := 2 * s - g) (m := 2 * s) (by omega) (by omega)
      rw [show p - (2 * s - g) = p + g - 2 * s by omega] at a1
      have a2 : 2 * s ∣ p + g ↔ 2 * s ∣ p + g - 2 * s := by
        constructor
        · intro q; exact Int.dvd_sub q (Int.dvd_refl _)
        · intro q; have := Int.dvd_add q (Int.dvd_refl (2 * s)); rwa [Int.sub_add_cancel] at this
      rw [a2, ← a1]
      constructor
      · exact .inl
      · rintro (q | q)
        · exact q
        · exact absurd q.1 z
  rw [← a, b]
  unfold foM
  generalize p % (2 * s) = r at *
  constructor
  · intro q
    split at q <;> omega
  · intro q
    split <;> omega
theorem foM_eq_iff {s p q : Int} (hs : 0 < s) : foM s p = foM s q ↔ 2 * s ∣ p - q ∨ 2 * s ∣ p + q := by
  obtain ⟨g0, g1⟩ := foM_rng (p := q) hs
  have hq := (foM_iff (p := q) hs g0 g1).mp rfl
  rw [foM_iff hs g0 g1]
  generalize foM s q = g at *
  rcases hq with hq | hq
  · constructor
    · rintro (z | z)
      · left; have := Int.dvd_sub z hq; rwa [show p - g - (q - g) = p - q by omega] at this
      · right; have := Int.dvd_add z hq; rwa [show p + g + (q - g) = p + q by omega] at this
    · rintro (z | z)
      · left; have := Int.dvd_add z hq; rwa [show p - q + (q - g) = p - g by omega] at this
      · right; have := Int.dvd_sub z hq; rwa [show p + q - (q - g) = p + g by omega] at this
  · constructor
    · rintro (z | z)
      · right; have := Int.dvd_add z hq; rwa [show p - g + (q + g) = p + q by omega] at this
      · left; have := Int.dvd_sub z hq; rwa [show p + g - (q + g) = p - q by omega] at this
    · rintro (z | z)
      · right; have := Int.dvd_add z hq; rwa [show p - q + (q + g) = p + g by omega] at this
      · left; have := Int.dvd_sub z hq; rwa [show p + q - (q + g) = p - g by omega] at this
theorem foM_id {s x : Int} (hs : 0 < s) (h0 : 0 ≤ x) (h1 : x ≤ s) : foM s x = x := (foM_iff hs h0 h1).mpr (.inl (by rw [Int.sub_self]; exact Int.dvd_zero _))
/-- the place of a ball, by the unfolded way -/
def plM (w h : Int) (b : Ball) (t : Int) : Cl := (foM w (b.x + b.dx * (t - b.m)), foM h (b.y + b.dy * (t - b.m)))
structure Fit (w h : Int) (b : Ball) : Prop where
  nm : nameM b.t = true
  x0 : 0 ≤ b.x
  x1 : b.x ≤ w
  y0 : 0 ≤ b.y
  y1 : b.y ≤ h
  m0 : 0 ≤ b.m
  m1 : b.m ≤ 10 ^ 30
  dx : b.dx = -1 ∨ b.dx = 0 ∨ b.dx = 1
  dy : b.dy = -1 ∨ b.dy = 0 ∨ b.dy = 1
  nz : ¬ (b.dx = 0 ∧ b.dy = 0)
theorem ballM_iff {w h : Int} {b : Ball} : ballM w h b = true ↔ Fit w h b := by
  unfold ballM inTab stepB
  simp only [Bool.and_eq_true, decide_eq_true_iff, Bool.not_eq_true', decide_eq_false_iff_not]
  constructor
  · rintro ⟨a, ⟨b1, b2, b3, b4⟩, ⟨c1, c2⟩, d, e, f⟩
    exact ⟨a, b1, b2, b3, b4, c1, c2, d, e, f⟩
  · intro f
    exact ⟨f.nm, ⟨f.x0, f.x1, f.y0, f.y1⟩, ⟨f.m0, f.m1⟩, f.dx, f.dy, f.nz⟩
theorem nameM_len {t : Str} (h : nameM t = true) : t.cps.size ≤ 20 := by
  unfold nameM at h
  rw [Bool.and_eq_true, Bool.and_eq_true] at h
  have := of_decide_eq_true h.1.1
  omega
structure TabOk (w h : Int) : Prop where
  w0 : 0 < w
  w1 : w ≤ 10 ^ 30
  h0 : 0 < h
  h1 : h ≤ 10 ^ 30
/-- what at_point and meetings tell -/
structure Tells (cs : List Cl) (n : Nat) (P : Int → Prop) : Prop where
  ok : ∀ c ∈ cs, okC c ∧ c.2 < 10 ^ 99
  ap : cs.Pairwise apart
  so : sortC cs = cs
  ln : cs.length ≤ n
  sem : ∀ t, inL cs t ↔ P t
  bd : ∀ c ∈ cs, c.2 ≤ 4 * 10 ^ 60
theorem cross_tells {xs ys : List Cl} {nx ny : Nat} {P Q : Int → Prop} {B : Int} (hx : Good xs) (hy : Good ys) (bx : ∀ c ∈ xs, c.2 ≤ 2 * 10 ^ 30) (by_ : ∀ c ∈ ys, c.2 ≤ 2 * 10 ^ 30) (lx : xs.length ≤ nx) (ly : ys.length ≤ ny) (hn : nx * ny ≤ 64) (sx : ∀ t, inL xs t ↔ P t) (sy : ∀ t, inL ys t ↔ Q t) : Tells (sortC (crM xs ys)) (nx * ny) (fun t => P t ∧ Q t) := by
  have b : (2 : Int) * 10 ^ 30 < 10 ^ 99 := by decide
  have ox : ∀ c ∈ xs, okC c ∧ c.2 < 10 ^ 99 := fun c hc => ⟨hx.1 c hc, Int.lt_of_le_of_lt (bx c hc) b⟩
  have oy : ∀ c ∈ ys, okC c ∧ c.2 < 10 ^ 99 := fun c hc => ⟨hy.1 c hc, Int.lt_of_le_of_lt (by_ c hc) b⟩
  have g := crM_good ox oy hx.2 hy.2
  refine ⟨fun c hc => ?_, sortC_apart g.2, sortC_idem _, ?_, fun t => by rw [sortC_inL, crM_sem ox oy, sx, sy], fun c hc => ?_⟩
  · obtain ⟨x, hx', y, hy', o, e, _⟩ := crM_mem ox oy (sortC_mem.mp hc)
    refine ⟨o, ?_⟩
    have px : 0 < x.2 := by have := (hx.1 x hx').1; have := (hx.1 x hx').2; omega
    have py : 0 < y.2 := by have := (hy.1 y hy').1; have := (hy.1 y hy').2; omega
    have l := lcm_le px py
    have l2 : x.2 * y.2 ≤ (2 * 10 ^ 30) * (2 * 10 ^ 30) := Int.mul_le_mul (bx x hx') (by_ y hy') (Int.le_of_lt py) (by decide)
    have l3 : ((2 : Int) * 10 ^ 30) * (2 * 10 ^ 30) < 10 ^ 99 := by decide
    rw [e]
    exact Int.lt_of_le_of_lt (Int.le_trans l l2) l3
  · rw [sortC_len]
    exact Nat.le_trans crM_len (Nat.mul_le_mul lx ly)
  · obtain ⟨x, hx', y, hy', o, e, _⟩ := crM_mem ox oy (sortC_mem.mp hc)
    have px : 0 < x.2 := by have := (hx.1 x hx').1; have := (hx.1 x hx').2; omega
    have py : 0 < y.2 := by have := (hy.1 y hy').1; have := (hy.1 y hy').2; omega
    have l := lcm_le px py
    have l2 : x.2 * y.2 ≤ (2 * 10 ^ 30) * (2 * 10 ^ 30) := Int.mul_le_mul (bx x hx') (by_ y hy') (Int.le_of_lt py) (by decide)
    rw [e]
    exact Int.le_trans (Int.le_trans l l2) (by decide)
theorem crM_sorted (xs ys : List Cl) : sortC (crM xs ys) = crM xs ys := sortC_idem _
theorem fix2_0 {a b : D} : fIx (.lst [a, b]) (.int 0) = .ok a := fIx_lst (by decide) rfl
theorem fix2_1 {a b : D} : fIx (.lst [a, b]) (.int 1) = .ok b := fIx_lst (by decide) rfl
theorem at_point_is (w h : Int) (pk : D) (T : TabOk w h) (b : Ball) (p : Cl) (f : Fit w h b) (hp : inTab w h p = true) : ∃ cs, f_at_point [tabP w h pk, blD b, cD p] = .ok (tmD b.m none cs) ∧ Tells cs 4 (fun t => plM w h b t = p) := by
  have ck := check_ball_is w h pk b (nameM_len f.nm)
  rw [if_pos (ballM_iff.mpr f)] at ck
  have cp := check_point_is w h pk p
  rw [if_pos hp] at cp
  have b30 : (10 : Int) ^ 30 < 10 ^ 100 := by decide
  have e1 := point_classes_is w (b.x - b.dx * b.m) b.dx p.1 T.w0 (Int.lt_of_le_of_lt T.w1 b30)
  have e2 := point_classes_is h (b.y - b.dy * b.m) b.dy p.2 T.h0 (Int.lt_of_le_of_lt T.h1 b30)
  obtain ⟨p0, p1, p2, p3⟩ := of_decide_eq_true hp
  have dx := f.dx; have dy := f.dy
  obtain ⟨g1, l1, u1⟩ := pcM_good (s := w) (a := b.x - b.dx * b.m) (st := b.dx) (g := p.1) T.w0
  obtain ⟨g2, l2, u2⟩ := pcM_good (s := h) (a := b.y - b.dy * b.m) (st := b.dy) (g := p.2) T.h0
  have w30 := T.w1; have h30 := T.h1
  have s1 : ∀ t, inL (pcM w (b.x - b.dx * b.m) b.dx p.1) t ↔ foM w (b.x + b.dx * (t - b.m)) = p.1 := fun t => by
    rw [pcM_sem T.w0 (by omega) (by omega), foM_iff T.w0 p0 p1, show b.x - b.dx * b.m + b.dx * t = b.x + b.dx * (t - b.m) by rw [Int.mul_sub]; omega]
  have s2 : ∀ t, inL (pcM h (b.y - b.dy * b.m) b.dy p.2) t ↔ foM h (b.y + b.dy * (t - b.m)) = p.2 := fun t => by
    rw [pcM_sem T.h0 (by omega) (by omega), foM_iff T.h0 p2 p3, show b.y - b.dy * b.m + b.dy * t = b.y + b.dy * (t - b.m) by rw [Int.mul_sub]; omega]
  have tl := cross_tells (B := 0) g1 g2 (fun c hc => by have := u1 c hc; omega) (fun c hc => by have := u2 c hc; omega) l1 l2 (by decide) s1 s2
  have bb : (2 : Int) * 10 ^ 30 < 10 ^ 99 := by decide
  have cr := crossed_is _ _ (fun c hc => ⟨g1.1 c hc, by have := u1 c hc; omega⟩) (fun c hc => ⟨g2.1 c hc, by have := u2 c hc; omega⟩) (by omega) (by omega)
  have tm := times_made b.m none (crM (pcM w (b.x - b.dx * b.m) b.dx p.1) (pcM h (b.y - b.dy * b.m) b.dy p.2)) (fun c hc => tl.ok c (sortC_mem.mpr hc)) (by
    have := tl.ap
    exact ((sortC_perm _).pairwise_iff (fun {_ _} => apart_symm)).mp this) (by have := tl.ln; rw [sortC_len] at this; omega) f.m0 (fun i h => by cases h)
  refine ⟨_, ?_, ⟨tl.ok, tl.ap, tl.so, tl.ln, fun t => (by rw [tl.sem]; exact ⟨fun z => Prod.ext z.1 z.2, fun z => by rw [← z]; exact ⟨rfl, rfl⟩⟩), tl.bd⟩⟩
  have m1 : fMul (.int b.dx) (.int b.m) = .ok (.int (b.dx * b.m)) := fMul_l (by omega)
  have m2 : fMul (.int b.dy) (.int b.m) = .ok (.int (b.dy * b.m)) := fMul_l (by omega)
  have oi0 : oi none = .non := rfl
  rw [oi0] at tm
  have mm := tab_meth (w := w) (h := h) (pk := pk) (m := "check_point") (f := arity 2 f_Table_check_point) (q := pCons (pV 2) pNil) (p := pV 0) (ρ := [.dat (tabP w h pk), .dat (blD b), .dat (cD p), .unb, .unb, .unb, .unb]) rfl (by decide)
  have mm2 : pMeth "Table" "check_point" (arity 2 f_Table_check_point) (pV 0) (pCons (pV 2) pNil) [.dat (tabP w h pk), .dat (blD b), .dat (cD p), .unb, .unb, .unb, .unb] = .ok .non := by
    rw [mm, ← cp]; rfl
  have i0 : ∀ a b : D, fIx (.lst [a, b]) (.int 0) = .ok a := fun a b => fix2_0
  have i1 : ∀ a b : D, fIx (.lst [a, b]) (.int 1) = .ok b := fun a b => fix2_1
  have tw := @tab_w w h pk
  have th := @tab_h w h pk
  have a1 := @bl1 b; have a2 := @bl2 b; have a3 := @bl3 b; have a4 := @bl4 b; have a5 := @bl5 b
  have q0 := @fIx_cD0 p; have q1 := @fIx_cD1 p
  clear tl s1 s2 g1 g2 u1 u2 l1 l2 mm cp f hp T p0 p1 p2 p3 dx dy w30 h30 bb b30
  generalize (crM (pcM w (b.x - b.dx * b.m) b.dx p.1) (pcM h (b.y - b.dy * b.m) b.dy p.2)) = CR at *
  generalize D.lst ((pcM w (b.x - b.dx * b.m) b.dx p.1).map cD) = C1 at *
  generalize D.lst ((pcM h (b.y - b.dy * b.m) b.dy p.2).map cD) = C2 at *
  generalize D.lst (CR.map cD) = C3 at *
  generalize tabP w h pk = TT at *
  generalize blD b = BB at *
  generalize cD p = PP at *
  have l0 : l_at_point_0 [.dat TT, .dat BB, .dat PP, .own (.lst []), .dat (.int 1), .dat (.int w), .unb] = .nx [.dat TT, .dat BB, .dat PP, .own (.lst [C1]), .dat (.int 1), .dat (.int w), .dat (.int (b.x - b.dx * b.m))] := by
    unfold l_at_point_0
    walk_at "dk"
  have l1 : l_at_point_0 [.dat TT, .dat BB, .dat PP, .own (.lst [C1]), .dat (.int 2), .dat (.int h), .dat (.int (b.x - b.dx * b.m))] = .nx [.dat TT, .dat BB, .dat PP, .own (.lst [C1, C2]), .dat (.int 2), .dat (.int h), .dat (.int (b.y - b.dy * b.m))] := by
    unfold l_at_point_0
    walk_at "dk"
  have fl : forL (gTp (gsCons (gN 4) (gsCons (gN 5) gsNil))) l_at_point_0 [.tup [.int 1, .int w], .tup [.int 2, .int h]] [.dat TT, .dat BB, .dat PP, .own (.lst []), .unb, .unb, .unb] = .nx [.dat TT, .dat BB, .dat PP, .own (.lst [C1, C2]), .dat (.int 2), .dat (.int h), .dat (.int (b.y - b.dy * b.m))] := by
    rw [forL_step rfl l0, forL_step rfl l1]; rfl
  clear l0 l1
  unfold f_at_point runF p_at_point
  walk_at "dk"
end DL
end

section
set_option linter.all false
set_option maxRecDepth 100000
set_option maxHeartbeats 4000000
set_option exponentiation.threshold 2000
namespace DL
open PySem L2
local macro_rules | `(tactic| walk_at "dl") => `(tactic| simp (disch := first | assumption | omega) [-List.map_map, pSeq, pSet, pSetO, pWith, pBin, pV, pVo, pC, pCall, pCons, pNil, pTup, pLst, pUn, pIf, pIfS, pRet, pDrop, pAsg, pPar, pAug, pApp, pFrz, frzE, pB, pTr, pNot, pAnd, pOr, pAndV, pOrV, pNotV, pNotT, pChain, pNext, pFn, arity, pIter, pFor, pRg1, pRg2, pSl, pNo, pPart, pWhile, fuelI, pIsi, pIsiT, tyN, isiOk, isiB, isiAny, pLc, pYes, lcL, wipeE, pMeth, qStm, qFld, qPut, qKeep, qRest, pEnum2, enumOf, enumD, sz_eq, pDPutT, dKeys, dKey, pBestD, pIsC, List.getElem?_cons_zero, List.getElem?_cons_succ, *])
local macro_rules | `(tactic| walk_at "dk") => `(tactic| simp (disch := first | assumption | omega) [-List.map_map, pSeq, pSet, pSetO, pWith, pBin, pV, pVo, pC, pCall, pCons, pNil, pTup, pLst, pUn, pIf, pIfS, pRet, pDrop, pAsg, pPar, pAug, pApp, pFrz, frzE, pB, pTr, pNot, pAnd, pOr, pAndV, pOrV, pNotV, pNotT, pChain, pNext, pFn, arity, pIter, pFor, pRg1, pRg2, pSl, pNo, pPart, pWhile, fuelI, pIsi, pIsiT, tyN, isiOk, isiB, isiAny,  qStm, qFld, qPut, qKeep, qRest, pEnum2, enumOf, enumD, sz_eq, pDPutT, dKeys, dKey, pBestD, pIsC, wipeE, List.getElem?_cons_zero, List.getElem?_cons_succ, *])
theorem part_classes_is (w h : Int) (pk : D) (T : TabOk w h) (a b : Ball) (fa : Fit w h a) (fb : Fit w h b) : f_part_classes [tabP w h pk, blD a, blD b] = .ok (.tup [.lst ((mcM w (a.x - a.dx * a.m) a.dx (b.x - b.dx * b.m) b.dx).map cD), .lst ((mcM h (a.y - a.dy * a.m) a.dy (b.y - b.dy * b.m) b.dy).map cD)]) := by
  have b30 : (10 : Int) ^ 30 < 10 ^ 100 := by decide
  have e1 := meeting_classes_is w (a.x - a.dx * a.m) a.dx (b.x - b.dx * b.m) b.dx T.w0 (Int.lt_of_le_of_lt T.w1 b30)
  have e2 := meeting_classes_is h (a.y - a.dy * a.m) a.dy (b.y - b.dy * b.m) b.dy T.h0 (Int.lt_of_le_of_lt T.h1 b30)
  have dx := fa.dx; have dy := fa.dy; have dx2 := fb.dx; have dy2 := fb.dy
  have m1 : fMul (.int a.dx) (.int a.m) = .ok (.int (a.dx * a.m)) := fMul_l (by omega)
  have m2 : fMul (.int a.dy) (.int a.m) = .ok (.int (a.dy * a.m)) := fMul_l (by omega)
  have m3 : fMul (.int b.dx) (.int b.m) = .ok (.int (b.dx * b.m)) := fMul_l (by omega)
  have m4 : fMul (.int b.dy) (.int b.m) = .ok (.int (b.dy * b.m)) := fMul_l (by omega)
  have i0 : ∀ a b : D, fIx (.lst [a, b]) (.int 0) = .ok a := fun a b => fix2_0
  have i1 : ∀ a b : D, fIx (.lst [a, b]) (.int 1) = .ok b := fun a b => fix2_1
  have tw := @tab_w w h pk
  have th := @tab_h w h pk
  have a1 := @bl1 a; have a2 := @bl2 a; have a3 := @bl3 a; have a4 := @bl4 a; have a5 := @bl5 a
  have b1 := @bl1 b; have b2 := @bl2 b; have b3 := @bl3 b; have b4 := @bl4 b; have b5 := @bl5 b
  clear b30 dx dy dx2 dy2 fa fb T
  generalize D.lst ((mcM w (a.x - a.dx * a.m) a.dx (b.x - b.dx * b.m) b.dx).map cD) = C1 at *
  generalize D.lst ((mcM h (a.y - a.dy * a.m) a.dy (b.y - b.dy * b.m) b.dy).map cD) = C2 at *
  generalize tabP w h pk = TT at *
  generalize blD a = AA at *
  generalize blD b = BB at *
  have l0 : l_part_classes_0 [.dat TT, .dat AA, .dat BB, .own (.lst []), .dat (.int 1), .dat (.int w), .unb, .unb] = .nx [.dat TT, .dat AA, .dat BB, .own (.lst [C1]), .dat (.int 1), .dat (.int w), .dat (.int (a.x - a.dx * a.m)), .dat (.int (b.x - b.dx * b.m))] := by
    unfold l_part_classes_0
    walk_at "dk"
  have l1 : l_part_classes_0 [.dat TT, .dat AA, .dat BB, .own (.lst [C1]), .dat (.int 2), .dat (.int h), .dat (.int (a.x - a.dx * a.m)), .dat (.int (b.x - b.dx * b.m))] = .nx [.dat TT, .dat AA, .dat BB, .own (.lst [C1, C2]), .dat (.int 2), .dat (.int h), .dat (.int (a.y - a.dy * a.m)), .dat (.int (b.y - b.dy * b.m))] := by
    unfold l_part_classes_0
    walk_at "dk"
  have fl : forL (gTp (gsCons (gN 4) (gsCons (gN 5) gsNil))) l_part_classes_0 [.tup [.int 1, .int w], .tup [.int 2, .int h]] [.dat TT, .dat AA, .dat BB, .own (.lst []), .unb, .unb, .unb, .unb] = .nx [.dat TT, .dat AA, .dat BB, .own (.lst [C1, C2]), .dat (.int 2), .dat (.int h), .dat (.int (a.y - a.dy * a.m)), .dat (.int (b.y - b.dy * b.m))] := by
    rw [forL_step rfl l0, forL_step rfl l1]; rfl
  clear l0 l1
  unfold f_part_classes runF p_part_classes
  walk_at "dk"
/-- the classes for x, for y -/
structure PartOk (s a st b mv : Int) : Prop where
  good : Good (mcM s a st b mv)
  len : (mcM s a st b mv).length ≤ 2
  bd : ∀ c ∈ mcM s a st b mv, c.2 ≤ 2 * s
  sem : ∀ t, inL (mcM s a st b mv) t ↔ foM s (a + st * t) = foM s (b + mv * t)
theorem part_ok {s a st b mv : Int} (hs : 0 < s) (h1 : st = -1 ∨ st = 0 ∨ st = 1) (h2 : mv = -1 ∨ mv = 0 ∨ mv = 1) : PartOk s a st b mv := by
  obtain ⟨g, l, u⟩ := mcM_good (s := s) (a := a) (st := st) (b := b) (mv := mv) hs (by omega) (by omega) (by omega) (by omega)
  exact ⟨g, l, u, fun t => by rw [mcM_sem hs (by omega) (by omega) (by omega) (by omega), foM_eq_iff hs]⟩
theorem meetings_is (w h : Int) (pk : D) (T : TabOk w h) (a b : Ball) (fa : Fit w h a) (fb : Fit w h b) : ∃ cs, f_meetings [tabP w h pk, blD a, blD b] = .ok (tmD (if b.m > a.m then b.m else a.m) none cs) ∧ Tells cs 4 (fun t => plM w h a t = plM w h b t) := by
  have ck := check_ball_is w h pk a (nameM_len fa.nm)
  rw [if_pos (ballM_iff.mpr fa)] at ck
  have ck2 := check_ball_is w h pk b (nameM_len fb.nm)
  rw [if_pos (ballM_iff.mpr fb)] at ck2
  have pc := part_classes_is w h pk T a b fa fb
  have px := part_ok (s := w) (a := a.x - a.dx * a.m) (b := b.x - b.dx * b.m) T.w0 fa.dx fb.dx
  have py := part_ok (s := h) (a := a.y - a.dy * a.m) (b := b.y - b.dy * b.m) T.h0 fa.dy fb.dy
  have w30 := T.w1; have h30 := T.h1
  have s1 : ∀ t, inL (mcM w (a.x - a.dx * a.m) a.dx (b.x - b.dx * b.m) b.dx) t ↔ foM w (a.x + a.dx * (t - a.m)) = foM w (b.x + b.dx * (t - b.m)) := fun t => by
    rw [px.sem, show a.x - a.dx * a.m + a.dx * t = a.x + a.dx * (t - a.m) by rw [Int.mul_sub]; omega, show b.x - b.dx * b.m + b.dx * t = b.x + b.dx * (t - b.m) by rw [Int.mul_sub]; omega]
  have s2 : ∀ t, inL (mcM h (a.y - a.dy * a.m) a.dy (b.y - b.dy * b.m) b.dy) t ↔ foM h (a.y + a.dy * (t - a.m)) = foM h (b.y + b.dy * (t - b.m)) := fun t => by
    rw [py.sem, show a.y - a.dy * a.m + a.dy * t = a.y + a.dy * (t - a.m) by rw [Int.mul_sub]; omega, show b.y - b.dy * b.m + b.dy * t = b.y + b.dy * (t - b.m) by rw [Int.mul_sub]; omega]
  have tl := cross_tells (B := 0) px.good py.good (fun c hc => by have := px.bd c hc; omega) (fun c hc => by have := py.bd c hc; omega) px.len py.len (by decide) s1 s2
  have bb : (2 : Int) * 10 ^ 30 < 10 ^ 99 := by decide
  have lx := px.len; have ly := py.len
  have cr := crossed_is _ _ (fun c hc => ⟨px.good.1 c hc, by have := px.bd c hc; omega⟩) (fun c hc => ⟨py.good.1 c hc, by have := py.bd c hc; omega⟩) (by omega) (by omega)
  have m0 := fa.m0; have m0' := fb.m0
  have tm := times_made (if b.m > a.m then b.m else a.m) none (crM (mcM w (a.x - a.dx * a.m) a.dx (b.x - b.dx * b.m) b.dx) (mcM h (a.y - a.dy * a.m) a.dy (b.y - b.dy * b.m) b.dy)) (fun c hc => tl.ok c (sortC_mem.mpr hc)) (((sortC_perm _).pairwise_iff (fun {_ _} => apart_symm)).mp tl.ap) (by have := tl.ln; rw [sortC_len] at this; omega) (by split <;> omega) (fun i h => by cases h)
  refine ⟨_, ?_, ⟨tl.ok, tl.ap, tl.so, tl.ln, fun t => (by rw [tl.sem]; exact ⟨fun z => Prod.ext z.1 z.2, fun z => ⟨congrArg Prod.fst z, congrArg Prod.snd z⟩⟩), tl.bd⟩⟩
  have oi0 : oi none = .non := rfl
  rw [oi0] at tm
  have a5 := @bl5 a; have b5 := @bl5 b
  have mx : fMax2 [.int a.m, .int b.m] = .ok (.int (if b.m > a.m then b.m else a.m)) := rfl
  clear tl s1 s2 px py bb lx ly m0 m0' fa fb T w30 h30
  generalize (crM (mcM w (a.x - a.dx * a.m) a.dx (b.x - b.dx * b.m) b.dx) (mcM h (a.y - a.dy * a.m) a.dy (b.y - b.dy * b.m) b.dy)) = CR at *
  generalize D.lst ((mcM w (a.x - a.dx * a.m) a.dx (b.x - b.dx * b.m) b.dx).map cD) = C1 at *
  generalize D.lst ((mcM h (a.y - a.dy * a.m) a.dy (b.y - b.dy * b.m) b.dy).map cD) = C2 at *
  generalize D.lst (CR.map cD) = C3 at *
  generalize tabP w h pk = TT at *
  generalize blD a = AA at *
  generalize blD b = BB at *
  generalize (if b.m > a.m then b.m else a.m) = M at *
  unfold f_meetings runF p_meetings
  simp [pSeq, pDrop, pWith, pFn, pCons, pV, pNil, arity, ck, ck2, pAsg, pc, pRet, pCall, a5, b5, mx, pBin, pC, cr, tm]
end DL
end

section
set_option linter.all false
set_option maxRecDepth 100000
set_option maxHeartbeats 4000000
set_option exponentiation.threshold 2000
namespace DL
open PySem L2
local macro_rules | `(tactic| walk_at "dl") => `(tactic| simp [pSeq, pSet, pSetO, pWith, pBin, pV, pVo, pC, pCall, pCons, pNil, pTup, pLst, pUn, pIf, pIfS, pRet, pDrop, pAsg, pPar, pAug, pApp, pFrz, frzE, pB, pTr, pNot, pAnd, pOr, pAndV, pOrV, pNotV, pChain, pNext, pFn, arity, pIter, pFor, pRg1, pRg2, pSl, pNo, pPart, pWhile, fuelI, *])
abbrev dI (L : List Int) : List D := L.map .int
/-- what is drawn -/
def Dr (L : List Int) : Prop := ∀ y ∈ L, 0 ≤ y ∧ y < 1009
theorem Dr.nil : Dr [] := fun y h => by simp at h
theorem Dr.snoc {L : List Int} (h : Dr L) {z : Int} (h0 : 0 ≤ z) (h1 : z < 1009) : Dr (L ++ [z]) := fun y hy => by
  rcases List.mem_append.mp hy with q | q
  · exact h y q
  · rw [List.mem_singleton.mp q]; exact ⟨h0, h1⟩
theorem dI_snoc (L : List Int) (z : Int) : dI (L ++ [z]) = dI L ++ [.int z] := by simp [dI]
theorem dI_len (L : List Int) : (dI L).length = L.length := by simp [dI]
theorem row_body (c m : Int) (acc : List Int) (rest mixed k : Int) (hl : acc.length < 10000) : ∃ z rest' mixed' : Int, 0 ≤ z ∧ z < 1009 ∧
    l_law_row_0 [.dat (.int c), .dat (.int m), .own (.lst (dI acc)), .dat (.int rest), .dat (.int mixed), .dat (.int k)] = .nx [.dat (.int c), .dat (.int m), .own (.lst (dI (acc ++ [z]))), .dat (.int rest'), .dat (.int mixed'), .dat (.int k)] := by
  have hsz : acc.length < sizeLine := by rw [sizeLine_eq]; omega
  have m1 : fMul (.int mixed) (.int 16807) = .ok (.int (mixed * 16807)) := fMul_r (by decide)
  have m2 : fMul (.int 271) (.int (k + 3)) = .ok (.int (271 * (k + 3))) := fMul_l (by decide)
  by_cases hc : (1000000000000000000 : Int) ≤ (if c < 0 then -c else c)
  · refine ⟨rest % 1009, rest / 1009, (mixed * 16807 + 271 * (k + 3)) % 2147483629, Int.emod_nonneg _ (by decide), Int.emod_lt_of_pos _ (by decide), ?_⟩
    unfold l_law_row_0
    walk_at "dl"
  · refine ⟨((mixed * 16807 + 271 * (k + 3)) % 2147483629 / 7) % 1009, rest, (mixed * 16807 + 271 * (k + 3)) % 2147483629, Int.emod_nonneg _ (by decide), Int.emod_lt_of_pos _ (by decide), ?_⟩
    unfold l_law_row_0
    walk_at "dl"
theorem row_loop (c m : Int) : ∀ (ks : List D) (acc : List Int) (rest mixed : Int) (x : EV), (∀ d ∈ ks, ∃ k, d = .int k) → acc.length + ks.length < 10000 → Dr acc →
    ∃ (acc' : List Int) (rest' mixed' : Int) (x' : EV), acc'.length = acc.length + ks.length ∧ Dr acc' ∧
      forL (gN 5) l_law_row_0 ks [.dat (.int c), .dat (.int m), .own (.lst (dI acc)), .dat (.int rest), .dat (.int mixed), x] = .nx [.dat (.int c), .dat (.int m), .own (.lst (dI acc')), .dat (.int rest'), .dat (.int mixed'), x']
  | [], acc, rest, mixed, x, _, _, ha => ⟨acc, rest, mixed, x, by simp, ha, rfl⟩
  | d :: ks, acc, rest, mixed, x, hk, hl, ha => by
    obtain ⟨k, rfl⟩ := hk d List.mem_cons_self
    rw [List.length_cons] at hl
    obtain ⟨z, rest1, mixed1, h0, h1, hb⟩ := row_body c m acc rest mixed k (by omega)
    obtain ⟨acc', rest', mixed', x', q1, q2, q3⟩ := row_loop c m ks (acc ++ [z]) rest1 mixed1 (.dat (.int k)) (fun d hd => hk d (List.mem_cons_of_mem _ hd)) (by simp; omega) (ha.snoc h0 h1)
    exact ⟨acc', rest', mixed', x', by rw [q1]; simp; omega, q2, by rw [forL_step (ρ1 := [.dat (.int c), .dat (.int m), .own (.lst (dI acc)), .dat (.int rest), .dat (.int mixed), .dat (.int k)]) rfl hb]; exact q3⟩
theorem rgD_int {lo : Int} {n : Nat} : ∀ d ∈ rgD lo n, ∃ k, d = .int k := fun d h => by
  obtain ⟨i, _, rfl⟩ := List.mem_map.mp h
  exact ⟨_, rfl⟩
theorem rgD_len {lo : Int} {n : Nat} : (rgD lo n).length = n := by simp [rgD]
theorem rgOk_of {i : Int} (h : -1000000 ≤ i) (h2 : i ≤ 1000000) : rgOk i = true := by
  have h3 : i.natAbs < 4611686018427387904 := by omega
  exact Nat.ble_eq_true_of_le h3
theorem law_row (c m : Int) (h0 : 0 ≤ m) (h1 : m < 9000) : ∃ L : List Int, (L.length : Int) = m ∧ Dr L ∧ f_law_row [.int c, .int m] = .ok (.lst (dI L)) := by
  obtain ⟨acc', rest', mixed', x', q1, q2, q3⟩ := row_loop c m (rgD 0 m.toNat) [] (if c < 0 then -c else c) (((if c < 0 then -c else c) * 48271 + 69621) % 2147483647) .unb rgD_int (by rw [rgD_len]; simp; omega) Dr.nil
  refine ⟨acc', by rw [q1, rgD_len]; simp; omega, q2, ?_⟩
  have m1 : fMul (.int (if c < 0 then -c else c)) (.int 48271) = .ok (.int ((if c < 0 then -c else c) * 48271)) := fMul_r (by decide)
  have hr : rgOk m = true := rgOk_of (by omega) (by omega)
  rw [show dI [] = [] from rfl] at q3
  unfold f_law_row runF p_law_row
  walk_at "dl"
theorem nums_body (s0 many each cells c z : D) (acc : List D) (hl : acc.length < 16777216) : l_law_numbers_0 [.dat s0, .dat many, .dat cells, .dat each, .own (.lst acc), .dat c, .dat z] = .nx [.dat s0, .dat many, .dat cells, .dat each, .own (.lst (acc ++ [z])), .dat c, .dat z] := by
  unfold l_law_numbers_0
  have hsz : acc.length < sizeLine := by rw [sizeLine_eq]; omega
  walk_at "dl"
theorem nums_in (s0 many each cells c : D) : ∀ (L : List Int) (acc : List Int) (x : EV), acc.length + L.length < 10000000 → ∃ x', forL (gN 6) l_law_numbers_0 (dI L) [.dat s0, .dat many, .dat cells, .dat each, .own (.lst (dI acc)), .dat c, x] = .nx [.dat s0, .dat many, .dat cells, .dat each, .own (.lst (dI (acc ++ L))), .dat c, x']
  | [], acc, x, _ => ⟨x, by rw [List.append_nil]; rfl⟩
  | z :: L, acc, x, hl => by
    rw [List.length_cons] at hl
    obtain ⟨x', h⟩ := nums_in s0 many each cells c L (acc ++ [z]) (.dat (.int z)) (by simp; omega)
    refine ⟨x', ?_⟩
    show forL _ _ (.int z :: dI L) _ = _
    rw [forL_step (ρ1 := [.dat s0, .dat many, .dat cells, .dat each, .own (.lst (dI acc)), .dat c, .dat (.int z)]) rfl (nums_body s0 many each cells c (.int z) (dI acc) (by rw [dI_len]; omega)), ← dI_snoc, h]
    simp
theorem nums_out (s0 many cells : D) (each : Int) (h0 : 0 ≤ each) (h1 : each < 9000) : ∀ (ns : List Int) (acc : List Int) (x y : EV), Dr acc → acc.length + ns.length * 9000 < 1000000 → ∃ acc' x' y', Dr acc' ∧ acc'.length ≤ acc.length + ns.length * 9000 ∧
    forL (gN 5) l_law_numbers_1 (dI ns) [.dat s0, .dat many, .dat cells, .dat (.int each), .own (.lst (dI acc)), x, y] = .nx [.dat s0, .dat many, .dat cells, .dat (.int each), .own (.lst (dI acc')), x', y']
  | [], acc, x, y, ha, _ => ⟨acc, x, y, ha, by simp, rfl⟩
  | c :: ns, acc, x, y, ha, hl => by
    rw [List.length_cons] at hl
    obtain ⟨L, l1, l2, l3⟩ := law_row c each h0 h1
    obtain ⟨y1, hy⟩ := nums_in s0 many (.int each) cells (.int c) L acc y (by omega)
    have hd : Dr (acc ++ L) := fun z hz => by
      rcases List.mem_append.mp hz with q | q
      · exact ha z q
      · exact l2 z q
    obtain ⟨acc', x', y', q1, q2, q3⟩ := nums_out s0 many cells each h0 h1 ns (acc ++ L) (.dat (.int c)) y1 hd (by simp; omega)
    refine ⟨acc', x', y', q1, by rw [List.length_append] at q2; rw [List.length_cons]; omega, ?_⟩
    show forL _ _ (.int c :: dI ns) _ = _
    rw [forL_step (ρ1 := [.dat s0, .dat many, .dat cells, .dat (.int each), .own (.lst (dI acc)), .dat (.int c), y]) rfl (ρ2 := [.dat s0, .dat many, .dat cells, .dat (.int each), .own (.lst (dI (acc ++ L))), .dat (.int c), y1])]
    · exact q3
    · unfold l_law_numbers_1
      walk_at "dl"
theorem nums_wh (s0 cells each : D) (many : Int) (x y : EV) (h1 : many < 9000) : ∀ (n : Nat) (acc : List Int), Dr acc → acc.length < 1000000 → many - acc.length < n → 0 < n → ∃ acc' : List Int, Dr acc' ∧ many ≤ acc'.length ∧ acc'.length < 2000000 ∧
    whL wc_law_numbers_0 w_law_numbers_0 n [.dat s0, .dat (.int many), .dat cells, .dat each, .own (.lst (dI acc)), x, y] = .nx [.dat s0, .dat (.int many), .dat cells, .dat each, .own (.lst (dI acc')), x, y]
  | 0, acc, ha, hl, hn, h0 => by omega
  | n + 1, acc, ha, hl, hn, _ => by
    by_cases hc : (acc.length : Int) < many
    · obtain ⟨acc', q1, q2, q3, q4⟩ := nums_wh s0 cells each many x y h1 n (acc ++ [0]) (ha.snoc (by decide) (by decide)) (by simp; omega) (by simp; omega) (by omega)
      refine ⟨acc', q1, q2, q3, ?_⟩
      have hsz : acc.length < sizeLine := by rw [sizeLine_eq]; omega
      rw [whL_step (ρ2 := [.dat s0, .dat (.int many), .dat cells, .dat each, .own (.lst (dI (acc ++ [0]))), x, y]), q4]
      · unfold wc_law_numbers_0; walk_at "dl"
      · unfold w_law_numbers_0; walk_at "dl"
    · refine ⟨acc, ha, by omega, by omega, ?_⟩
      rw [whL_end]
      unfold wc_law_numbers_0; walk_at "dl"
theorem law_numbers (ns : List Int) (many : Int) (h0 : 0 ≤ many) (h1 : many < 8000) (hn : ns.length ≤ 63) : ∃ L : List Int, (L.length : Int) = many ∧ Dr L ∧ f_law_numbers [.kl (dI ns), .int many] = .ok (.lst (dI L)) := by
  have hcut : cutD (dI ns) none (some 63) = dI ns := by
    have := cutD_take (dI ns) 63
    rw [show ((63 : Nat) : Int) = 63 from rfl] at this
    rw [this, List.take_of_length_le (by rw [dI_len]; exact hn)]
  have hmx : (0 : Int) < (if 1 < (ns.length : Int) then (ns.length : Int) else 1) := by split <;> omega
  have hmx2 : (if 1 < (ns.length : Int) then (ns.length : Int) else 1) < 10 ^ 200 := by
    have e : (1000 : Int) < 10 ^ 200 := by decide
    split <;> omega
  have hdv := fDiv_ok (i := many) hmx hmx2
  have e0 : 0 ≤ many / (if 1 < (ns.length : Int) then (ns.length : Int) else 1) := Int.ediv_nonneg h0 (by omega)
  have e1 : many / (if 1 < (ns.length : Int) then (ns.length : Int) else 1) ≤ many := Int.ediv_le_self _ h0
  generalize hq : many / (if 1 < (ns.length : Int) then (ns.length : Int) else 1) = q at hdv e0 e1
  obtain ⟨acc', x', y', a1, a2, a3⟩ := nums_out (.kl (dI ns)) (.int many) (.lst (dI ns)) (1 + q) (by omega) (by omega) ns [] .unb .unb Dr.nil (by simp; omega)
  obtain ⟨acc2, b1, b2, b3, b4⟩ := nums_wh (.kl (dI ns)) (.lst (dI ns)) (.int (1 + q)) many x' y' (by omega) (many.natAbs + 1) acc' a1 (by simp at a2; omega) (by omega) (by omega)
  have hcut2 : cutD (dI acc2) none (some many) = dI (acc2.take many.toNat) := by
    have := cutD_take (dI acc2) many.toNat
    rw [show ((many.toNat : Nat) : Int) = many by omega] at this
    rw [this, dI, dI, List.map_take]
  refine ⟨acc2.take many.toNat, by rw [List.length_take]; omega, fun y hy => b1 y (List.mem_of_mem_take hy), ?_⟩
  rw [show dI [] = [] from rfl] at a3
  unfold f_law_numbers runF p_law_numbers
  have hsl : fSl (.kl (dI ns)) none (some 63) = .ok (.lst (dI ns)) := by
    show Rs.ok (D.lst (cutD (dI ns) none (some 63))) = _
    rw [hcut]
  have hsl2 : fSl (.lst (dI acc2)) none (some many) = .ok (.lst (dI (acc2.take many.toNat))) := by
    show Rs.ok (D.lst (cutD (dI acc2) none (some many))) = _
    rw [hcut2]
  walk_at "dl"
end DL
end

section
set_option linter.all false
set_option maxRecDepth 100000
set_option maxHeartbeats 4000000
set_option exponentiation.threshold 2000
namespace DL
open PySem L2
local macro_rules | `(tactic| walk_at "dl") => `(tactic| simp (disch := first | assumption | omega) [-List.map_map, pSeq, pSet, pSetO, pWith, pBin, pV, pVo, pC, pCall, pCons, pNil, pTup, pLst, pUn, pIf, pIfS, pRet, pDrop, pAsg, pPar, pAug, pApp, pFrz, frzE, pB, pTr, pNot, pAnd, pOr, pAndV, pOrV, pNotV, pNotT, pChain, pNext, pFn, arity, pIter, pFor, pRg1, pRg2, pSl, pNo, pPart, pWhile, fuelI, pIsi, pIsiT, tyN, isiOk, isiB, isiAny, pLc, pYes, lcL, wipeE, pMeth, qStm, qFld, qPut, qKeep, qRest, pEnum2, enumOf, enumD, sz_eq, pDPutT, dKeys, dKey, pBestD, pIsC, List.getElem?_cons_zero, List.getElem?_cons_succ, *])
local macro_rules | `(tactic| walk_at "dk") => `(tactic| simp (disch := first | assumption | omega) [-List.map_map, pSeq, pSet, pSetO, pWith, pBin, pV, pVo, pC, pCall, pCons, pNil, pTup, pLst, pUn, pIf, pIfS, pRet, pDrop, pAsg, pPar, pAug, pApp, pFrz, frzE, pB, pTr, pNot, pAnd, pOr, pAndV, pOrV, pNotV, pNotT, pChain, pNext, pFn, arity, pIter, pFor, pRg1, pRg2, pSl, pNo, pPart, pWhile, fuelI, pIsi, pIsiT, tyN, isiOk, isiB, isiAny,  qStm, qFld, qPut, qKeep, qRest, pEnum2, enumOf, enumD, sz_eq, pDPutT, dKeys, dKey, pBestD, pIsC, wipeE, List.getElem?_cons_zero, List.getElem?_cons_succ, *])
def phM (s x d : Int) : Int := if d = 1 then x else -x % (2 * s)
def paM (s x d t : Int) : Int := if d = 0 then x else foM s (phM s x d + t)
def stM (s x d t : Int) : Int := if d = 0 then 0 else if (phM s x d + t) % (2 * s) < s then 1 else -1
theorem mod_next (p s : Int) (hs : 0 < s) : (p + 1) % (2 * s) = if p % (2 * s) + 1 = 2 * s then 0 else p % (2 * s) + 1 := by
  have r0 := Int.emod_nonneg p (show 2 * s ≠ 0 by omega)
  have r1 := Int.emod_lt_of_pos p (show 0 < 2 * s by omega)
  have e : p + 1 = (p % (2 * s) + 1) + 2 * s * (p / (2 * s)) := by
    have := Int.emod_add_mul_ediv p (2 * s); omega
  rw [e, Int.add_mul_emod_self_left]
  generalize p % (2 * s) = r at *
  split
  · rename_i h; rw [h]; exact Int.emod_self
  · exact Int.emod_eq_of_lt (by omega) (by omega)
def tuM (s x d : Int) : Int := if x + d < 0 ∨ s < x + d then -d else d
theorem pa_next (s x d t : Int) (hs : 0 < s) : paM s x d (t + 1) = paM s x d t + stM s x d t := by
  unfold paM stM foM
  by_cases h : d = 0
  · simp [h]
  · rw [if_neg h, if_neg h, if_neg h, ← Int.add_assoc, mod_next _ _ hs]
    have r0 := Int.emod_nonneg (phM s x d + t) (show 2 * s ≠ 0 by omega)
    have r1 := Int.emod_lt_of_pos (phM s x d + t) (show 0 < 2 * s by omega)
    generalize (phM s x d + t) % (2 * s) = r at *
    split <;> split <;> split <;> split <;> omega
theorem tu_next (s x d t : Int) (hs : 0 < s) (h0 : 0 ≤ x) (h1 : x ≤ s) : tuM s (paM s x d (t + 1)) (stM s x d t) = stM s x d (t + 1) := by
  unfold tuM paM stM foM
  by_cases h : d = 0
  · simp only [h, if_true]
    simp
  · rw [if_neg h, if_neg h, if_neg h, ← Int.add_assoc, mod_next _ _ hs]
    have r0 := Int.emod_nonneg (phM s x d + t) (show 2 * s ≠ 0 by omega)
    have r1 := Int.emod_lt_of_pos (phM s x d + t) (show 0 < 2 * s by omega)
    generalize (phM s x d + t) % (2 * s) = r at *
    by_cases c1 : r + 1 = 2 * s
    · simp only [c1, if_true]
      (repeat' split) <;> omega
    · simp only [c1, if_false]
      (repeat' split) <;> omega
theorem ph_mod (s x : Int) (hs : 0 < s) (h0 : 0 ≤ x) (h1 : x ≤ s) : (-x) % (2 * s) = if x = 0 then 0 else 2 * s - x := by
  split
  · rename_i h; rw [h]; rfl
  · have e : -x = (2 * s - x) + 2 * s * (-1) := by omega
    rw [e, Int.add_mul_emod_self_left]
    exact Int.emod_eq_of_lt (by omega) (by omega)
theorem ph_is (s x d : Int) (hs : 0 < s) (h0 : 0 ≤ x) (h1 : x ≤ s) : phM s x d % (2 * s) = if d = 1 then x else if x = 0 then 0 else 2 * s - x := by
  unfold phM
  by_cases h : d = 1
  · rw [if_pos h, if_pos h]; exact Int.emod_eq_of_lt h0 (by omega)
  · rw [if_neg h, if_neg h, Int.emod_emod, ph_mod s x hs h0 h1]
theorem pa_zero (s x d : Int) (hs : 0 < s) (h0 : 0 ≤ x) (h1 : x ≤ s) : paM s x d 0 = x := by
  unfold paM foM
  by_cases h : d = 0
  · rw [if_pos h]
  · rw [if_neg h, Int.add_zero, ph_is s x d hs h0 h1]
    (repeat' split) <;> omega
theorem tu_zero (s x d : Int) (hs : 0 < s) (h0 : 0 ≤ x) (h1 : x ≤ s) (hd : d = -1 ∨ d = 0 ∨ d = 1) : tuM s x d = stM s x d 0 := by
  unfold tuM stM
  by_cases h : d = 0
  · rw [if_pos h, h]; simp
  · rw [if_neg h, Int.add_zero, ph_is s x d hs h0 h1]
    (repeat' split) <;> omega
/-- a whole number of periods later -/
theorem pa_per (s x d t u : Int) : paM s x d (t + 2 * s * u) = paM s x d t := by
  unfold paM foM
  rw [← Int.add_assoc, Int.add_mul_emod_self_left]
theorem st_per (s x d t u : Int) : stM s x d (t + 2 * s * u) = stM s x d t := by
  unfold stM
  rw [← Int.add_assoc, Int.add_mul_emod_self_left]
theorem foM_mod {s p q : Int} (h : p % (2 * s) = q % (2 * s)) : foM s p = foM s q := by unfold foM; rw [h]
theorem pa_fold {s x d t : Int} (hs : 0 < s) (h0 : 0 ≤ x) (h1 : x ≤ s) (hd : d = -1 ∨ d = 0 ∨ d = 1) : paM s x d t = foM s (x + d * t) := by
  unfold paM phM
  rcases hd with rfl | rfl | rfl
  · rw [if_neg (by decide), if_neg (by decide)]
    have e : foM s (-x % (2 * s) + t) = foM s (-x + t) := foM_mod (by rw [Int.emod_add_emod])
    rw [e]
    refine (foM_eq_iff hs).mpr (.inr ?_)
    rw [show -x + t + (x + -1 * t) = 0 by omega]
    exact Int.dvd_zero _
  · rw [if_pos rfl, Int.zero_mul, Int.add_zero, foM_id hs h0 h1]
  · rw [if_neg (by decide), if_pos rfl, Int.one_mul]
/-! ## the draws -/
theorem ixL {L : List Int} {i : Int} (h0 : 0 ≤ i) (h : i < L.length) (hd : Dr L) : ∃ z, 0 ≤ z ∧ z < 1009 ∧ fIx (.lst (dI L)) (.int i) = .ok (.int z) := by
  have hn : i.toNat < L.length := by omega
  refine ⟨L[i.toNat], (hd _ (List.getElem_mem hn)).1, (hd _ (List.getElem_mem hn)).2, fIx_lst h0 (by rw [dI, List.getElem?_map, List.getElem?_eq_getElem hn]; rfl)⟩
theorem law_pick_is {L : List Int} (hd : Dr L) (i m : Int) (h0 : 0 ≤ i) (h : i < L.length) (hm : 0 < m) : ∃ z, 0 ≤ z ∧ z < m ∧ f_law_pick [.lst (dI L), .int i, .int m] = .ok (.int z) := by
  obtain ⟨z, z0, z1, e⟩ := ixL h0 h hd
  refine ⟨z % m, Int.emod_nonneg _ (by omega), Int.emod_lt_of_pos _ hm, ?_⟩
  generalize D.lst (dI L) = N at *
  unfold f_law_pick runF p_law_pick
  walk_at "dk"
theorem rgD_at {lo : Int} {n i : Nat} {d : D} (h : (rgD lo n)[i]? = some d) : d = .int (lo + i) ∧ i < n := by
  unfold rgD at h
  rw [List.getElem?_map] at h
  obtain ⟨k, hk, rfl⟩ := Option.map_eq_some_iff.mp h
  obtain ⟨h1, h2⟩ := List.getElem?_eq_some_iff.mp hk
  simp at h1 h2
  subst h2
  exact ⟨rfl, h1⟩
/-! ## the law's walk -/
def rowM (w h : Int) (b : Ball) (k : Int) : D := .tup [.int (paM w b.x b.dx k), .int (paM h b.y b.dy k), .int (stM w b.x b.dx k), .int (stM h b.y b.dy k)]
def rowsM (w h : Int) (b : Ball) (n : Nat) : List D := (List.range n).map fun (k : Nat) => rowM w h b (k : Int)
theorem rowsM_succ (w h : Int) (b : Ball) (n : Nat) : rowsM w h b (n + 1) = rowsM w h b n ++ [rowM w h b n] := by
  unfold rowsM
  rw [List.range_succ, List.map_append]; rfl
theorem rowsM_len (w h : Int) (b : Ball) (n : Nat) : (rowsM w h b n).length = n := by unfold rowsM; simp
theorem rowsM_get {w h : Int} {b : Ball} {n k : Nat} (hk : k < n) : (rowsM w h b n)[k]? = some (rowM w h b k) := by
  unfold rowsM
  rw [List.getElem?_map, List.getElem?_range hk]; rfl
theorem rowM_pl {w h : Int} {b : Ball} (f : Fit w h b) (hw : 0 < w) (hh : 0 < h) (k : Int) : (paM w b.x b.dx k, paM h b.y b.dy k) = plM w h b (b.m + k) := by
  unfold plM
  rw [pa_fold hw f.x0 f.x1 f.dx, pa_fold hh f.y0 f.y1 f.dy, show b.m + k - b.m = k by omega]
theorem walk_step (w h x y dx dy : Int) (a b c d : EV) (rows : List D) (hr : rows.length < 10000000) (z : EV) :
    l_law_walk_v2_0 [.dat (.int w), .dat (.int h), a, b, c, .dat (.int x), .dat (.int y), .dat (.int dx), .dat (.int dy), d, .own (.lst rows), z] =
      .nx [.dat (.int w), .dat (.int h), a, b, c, .dat (.int (x + tuM w x dx)), .dat (.int (y + tuM h y dy)), .dat (.int (tuM w x dx)), .dat (.int (tuM h y dy)), d, .own (.lst (rows ++ [.tup [.int x, .int y, .int (tuM w x dx), .int (tuM h y dy)]])), z] := by
  have sz : rows.length < 16777216 := by omega
  unfold l_law_walk_v2_0 tuM
  by_cases q1 : x + dx < 0
  · by_cases q2 : y + dy < 0
    · walk_at "dk"
    · by_cases q3 : h < y + dy
      · walk_at "dk"
      · walk_at "dk"
  · by_cases q4 : w < x + dx
    · by_cases q2 : y + dy < 0
      · walk_at "dk"
      · by_cases q3 : h < y + dy
        · walk_at "dk"
        · walk_at "dk"
    · by_cases q2 : y + dy < 0
      · walk_at "dk"
      · by_cases q3 : h < y + dy
        · walk_at "dk"
        · walk_at "dk"
/-- the step ahead of the k-th turning -/
def preM (s x d : Int) : Nat → Int
  | 0 => d
  | k + 1 => stM s x d k
theorem tu_pre {s x d : Int} (hs : 0 < s) (h0 : 0 ≤ x) (h1 : x ≤ s) (hd : d = -1 ∨ d = 0 ∨ d = 1) : ∀ k : Nat, tuM s (paM s x d k) (preM s x d k) = stM s x d k
  | 0 => by
    have := pa_zero s x d hs h0 h1
    have e : ((0 : Nat) : Int) = 0 := rfl
    rw [e, this]
    exact tu_zero s x d hs h0 h1 hd
  | k + 1 => by
    have := tu_next s x d k hs h0 h1
    have e : ((k + 1 : Nat) : Int) = (k : Int) + 1 := by omega
    rw [e]
    exact this
theorem law_walk_is (w h : Int) (b : Ball) (n : Int) (hw : 0 < w) (hh : 0 < h) (x0 : 0 ≤ b.x) (x1 : b.x ≤ w) (y0 : 0 ≤ b.y) (y1 : b.y ≤ h) (hdx : b.dx = -1 ∨ b.dx = 0 ∨ b.dx = 1) (hdy : b.dy = -1 ∨ b.dy = 0 ∨ b.dy = 1) (h0 : 0 ≤ n) (h1 : n < 1000000) :
    f_law_walk_v2 [.int w, .int h, blD b, .int n] = .ok (.lst (rowsM w h b (n + 1).toNat)) := by
  have hrg : rgOk (n + 1) = true := rgOk_of (by omega) (by omega)
  obtain ⟨ρ', e1, y9, e2⟩ := forL_inv (g := gN 11) (body := l_law_walk_v2_0) (ds := rgD 0 (n + 1).toNat) (ρ := [.dat (.int w), .dat (.int h), .dat (blD b), .dat (.int n), .dat (.str b.t), .dat (.int b.x), .dat (.int b.y), .dat (.int b.dx), .dat (.int b.dy), .dat (.int b.m), .own (.lst []), .unb])
    (fun i ρ => ∃ z, ρ = [.dat (.int w), .dat (.int h), .dat (blD b), .dat (.int n), .dat (.str b.t), .dat (.int (paM w b.x b.dx i)), .dat (.int (paM h b.y b.dy i)), .dat (.int (preM w b.x b.dx i)), .dat (.int (preM h b.y b.dy i)), .dat (.int b.m), .own (.lst (rowsM w h b i)), z])
    ⟨.unb, by
      have e : ((0 : Nat) : Int) = 0 := rfl
      rw [e, pa_zero w b.x b.dx hw x0 x1, pa_zero h b.y b.dy hh y0 y1]; rfl⟩ (fun i d ρ hd ⟨z, hρ⟩ => by
      subst hρ
      obtain ⟨rfl, hi⟩ := rgD_at hd
      refine ⟨_, _, rfl, .inl (walk_step w h (paM w b.x b.dx i) (paM h b.y b.dy i) (preM w b.x b.dx i) (preM h b.y b.dy i) _ _ _ _ (rowsM w h b i) (by rw [rowsM_len]; omega) (.dat (.int (0 + i)))), ⟨.dat (.int (0 + i)), ?_⟩⟩
      rw [tu_pre hw x0 x1 hdx, tu_pre hh y0 y1 hdy, rowsM_succ]
      have e : ((i + 1 : Nat) : Int) = (i : Int) + 1 := by omega
      rw [e, pa_next w b.x b.dx i hw, pa_next h b.y b.dy i hh]
      rfl)
  rw [e2] at e1
  rw [rgD_len] at e1
  have as : gTp (gsCons (gN 4) (gsCons (gN 5) (gsCons (gN 6) (gsCons (gN 7) (gsCons (gN 8) (gsCons (gN 9) gsNil)))))) (blD b) [.dat (.int w), .dat (.int h), .dat (blD b), .dat (.int n), .unb, .unb, .unb, .unb, .unb, .unb, .unb, .unb] = some [.dat (.int w), .dat (.int h), .dat (blD b), .dat (.int n), .dat (.str b.t), .dat (.int b.x), .dat (.int b.y), .dat (.int b.dx), .dat (.int b.dy), .dat (.int b.m), .unb, .unb] := rfl
  generalize blD b = B at *
  generalize rowsM w h b (n + 1).toNat = R at *
  clear x0 x1 y0 y1 hdx hdy
  unfold f_law_walk_v2 runF p_law_walk_v2
  walk_at "dk"
end DL
end

section
set_option linter.all false
set_option maxRecDepth 100000
set_option maxHeartbeats 4000000
set_option exponentiation.threshold 2000
namespace DL
open PySem L2
local macro_rules | `(tactic| walk_at "dl") => `(tactic| simp (disch := first | assumption | omega) [-List.map_map, pSeq, pSet, pSetO, pWith, pBin, pV, pVo, pC, pCall, pCons, pNil, pTup, pLst, pUn, pIf, pIfS, pRet, pDrop, pAsg, pPar, pAug, pApp, pFrz, frzE, pB, pTr, pNot, pAnd, pOr, pAndV, pOrV, pNotV, pNotT, pChain, pNext, pFn, arity, pIter, pFor, pRg1, pRg2, pSl, pNo, pPart, pWhile, fuelI, pIsi, pIsiT, tyN, isiOk, isiB, isiAny, pLc, pYes, lcL, wipeE, pMeth, qStm, qFld, qPut, qKeep, qRest, pEnum2, enumOf, enumD, sz_eq, pDPutT, dKeys, dKey, pBestD, pIsC, List.getElem?_cons_zero, List.getElem?_cons_succ, *])
local macro_rules | `(tactic| walk_at "dk") => `(tactic| simp (disch := first | assumption | omega) [-List.map_map, pSeq, pSet, pSetO, pWith, pBin, pV, pVo, pC, pCall, pCons, pNil, pTup, pLst, pUn, pIf, pIfS, pRet, pDrop, pAsg, pPar, pAug, pApp, pFrz, frzE, pB, pTr, pNot, pAnd, pOr, pAndV, pOrV, pNotV, pNotT, pChain, pNext, pFn, arity, pIter, pFor, pRg1, pRg2, pSl, pNo, pPart, pWhile, fuelI, pIsi, pIsiT, tyN, isiOk, isiB, isiAny,  qStm, qFld, qPut, qKeep, qRest, pEnum2, enumOf, enumD, sz_eq, pDPutT, dKeys, dKey, pBestD, pIsC, wipeE, List.getElem?_cons_zero, List.getElem?_cons_succ, *])
theorem fEq_refl {k : Nat} {xs : List D} (h : lay k (.lst xs)) (hk : k ≤ 64) : fEq (.lst xs) (.lst xs) = .ok (.bl true) := by
  rw [fEq_shp (shp_lay h hk) (shp_lay h hk) (fun x y e => by cases e), deq_refl h]
theorem lay_cDs (cs : List Cl) : lay 2 (.lst (cs.map cD)) := lay_lst (k := 1) fun d hd => by
  obtain ⟨c, _, rfl⟩ := List.mem_map.mp hd; exact lay_cD c
theorem lt_step (L : List Int) (hd : Dr L) (a w h : Int) (a0 : 0 ≤ a) (hw : 0 < w) (hh : 0 < h) (k : Nat) (hk : k < 3) (hl : a + 6 ≤ L.length) (ps : List Cl) (hp : ps.length ≤ k) (nd : ps.Nodup) (hi : ∀ p ∈ ps, inTab w h p = true) (z6 : EV) :
    ∃ (qs : List Cl) (y6 : EV), qs.length ≤ k + 1 ∧ qs.Nodup ∧ (∀ p ∈ qs, inTab w h p = true) ∧ l_law_table_0 [.dat (.lst (dI L)), .dat (.int a), .dat (.int w), .dat (.int h), .own (.lst (ps.map cD)), .dat (.int k), z6] = .nx [.dat (.lst (dI L)), .dat (.int a), .dat (.int w), .dat (.int h), .own (.lst (qs.map cD)), .dat (.int k), y6] := by
  obtain ⟨z, z0, z1, e⟩ := ixL (L := L) (i := a + 3 + k) (by omega) (by omega) hd
  have m1 : fMod (.int z) (.int (w + 1)) = .ok (.int (z % (w + 1))) := fMod_ok (by omega)
  have m2 : fMod (.int (z / 7)) (.int (h + 1)) = .ok (.int (z / 7 % (h + 1))) := fMod_ok (by omega)
  have d7 : fDiv (.int z) (.int 7) = .ok (.int (z / 7)) := fDiv_ok (by decide) (by decide)
  have r0 := Int.emod_nonneg z (show w + 1 ≠ 0 by omega)
  have r1 := Int.emod_lt_of_pos z (show 0 < w + 1 by omega)
  have r2 := Int.emod_nonneg (z / 7) (show h + 1 ≠ 0 by omega)
  have r3 := Int.emod_lt_of_pos (z / 7) (show 0 < h + 1 by omega)
  have sz : ps.length < 16777216 := by omega
  have ni := in_pairs (neg := true) (p := (z % (w + 1), z / 7 % (h + 1))) (ps := ps) (c := .lst (ps.map cD)) rfl (shp_cDl _)
  rw [← cD_def] at ni
  by_cases q : (z % (w + 1), z / 7 % (h + 1)) ∈ ps
  · refine ⟨ps, .dat (.tup [.int (z % (w + 1)), .int (z / 7 % (h + 1))]), by omega, nd, hi, ?_⟩
    rw [decide_eq_true q] at ni
    have ni : fIn2 true (.tup [.int (z % (w + 1)), .int (z / 7 % (h + 1))]) (.lst (ps.map cD)) = .ok (.bl false) := ni
    clear hi nd hd
    generalize D.lst (dI L) = N at *
    unfold l_law_table_0
    walk_at "dk"
  · refine ⟨ps ++ [(z % (w + 1), z / 7 % (h + 1))], .dat (.tup [.int (z % (w + 1)), .int (z / 7 % (h + 1))]), by simp; omega, ?_, ?_, ?_⟩
    · rw [List.nodup_append]
      exact ⟨nd, by simp, fun x hx y hy => by rw [List.mem_singleton.mp hy]; exact fun e => q (e ▸ hx)⟩
    · intro p hp
      rcases List.mem_append.mp hp with h1 | h1
      · exact hi p h1
      · rw [List.mem_singleton.mp h1]; exact decide_eq_true ⟨r0, by show z % (w + 1) ≤ w; omega, r2, by show z / 7 % (h + 1) ≤ h; omega⟩
    · rw [decide_eq_false q] at ni
      have ni : fIn2 true (.tup [.int (z % (w + 1)), .int (z / 7 % (h + 1))]) (.lst (ps.map cD)) = .ok (.bl true) := ni
      rw [List.map_append]
      have cc : [(z % (w + 1), z / 7 % (h + 1))].map cD = [.tup [.int (z % (w + 1)), .int (z / 7 % (h + 1))]] := rfl
      rw [cc]
      have sz2 : (ps.map cD).length < 16777216 := by simpa using sz
      clear hi nd hd q cc
      generalize D.lst (dI L) = N at *
      generalize ps.map cD = M at *
      unfold l_law_table_0
      walk_at "dk"
theorem law_table_is {L : List Int} (hd : Dr L) (a : Int) (a0 : 0 ≤ a) (hl : a + 6 ≤ L.length) : ∃ w h : Int, ∃ ps : List Cl, 1 ≤ w ∧ w ≤ 6 ∧ 1 ≤ h ∧ h ≤ 6 ∧ ps.length ≤ 3 ∧ ps.Nodup ∧ (∀ p ∈ ps, inTab w h p = true) ∧ f_law_table [.lst (dI L), .int a] = .ok (.tup [.int w, .int h, .tup (ps.map cD)]) := by
  obtain ⟨z0, _, _, e0⟩ := ixL (L := L) (i := a) (by omega) (by omega) hd
  obtain ⟨z1, _, _, e1⟩ := ixL (L := L) (i := a + 1) (by omega) (by omega) hd
  obtain ⟨z2, q0, q1, e2⟩ := ixL (L := L) (i := a + 2) (by omega) (by omega) hd
  have hw : 0 < 1 + z0 % 6 := by omega
  have hh : 0 < 1 + z1 % 6 := by omega
  have rg : rgOk (z2 % 4) = true := rgOk_of (by omega) (by omega)
  obtain ⟨ρ', e4, ps, y5, y6, p1, p2, p3, e5⟩ := forL_inv (g := gN 5) (body := l_law_table_0) (ds := rgD 0 (z2 % 4).toNat) (ρ := [.dat (.lst (dI L)), .dat (.int a), .dat (.int (1 + z0 % 6)), .dat (.int (1 + z1 % 6)), .own (.lst []), .unb, .unb])
    (fun i ρ => ∃ (ps : List Cl) (z5 z6 : EV), ps.length ≤ i ∧ ps.Nodup ∧ (∀ p ∈ ps, inTab (1 + z0 % 6) (1 + z1 % 6) p = true) ∧ ρ = [.dat (.lst (dI L)), .dat (.int a), .dat (.int (1 + z0 % 6)), .dat (.int (1 + z1 % 6)), .own (.lst (ps.map cD)), z5, z6])
    ⟨[], .unb, .unb, by simp, List.nodup_nil, fun p h => by simp at h, rfl⟩ (fun i d ρ hd' ⟨ps, z5, z6, h1, h2, h3, hρ⟩ => by
      subst hρ
      obtain ⟨rfl, hi⟩ := rgD_at hd'
      rw [Int.zero_add]
      obtain ⟨qs, y6, g1, g2, g3, g4⟩ := lt_step L hd a (1 + z0 % 6) (1 + z1 % 6) a0 hw hh i (by omega) hl ps h1 h2 h3 z6
      exact ⟨_, _, rfl, .inl g4, qs, _, y6, g1, g2, g3, rfl⟩)
  subst e5
  rw [rgD_len] at p1
  refine ⟨1 + z0 % 6, 1 + z1 % 6, ps, by omega, by omega, by omega, by omega, by omega, p2, p3, ?_⟩
  clear p1 p2 p3 hd hw hh
  generalize D.lst (dI L) = N at *
  generalize ps.map cD = M at *
  unfold f_law_table runF p_law_table
  walk_at "dk"
theorem dirs10 (z : Int) : ∃ dx dy : Int, (dx = -1 ∨ dx = 0 ∨ dx = 1) ∧ (dy = -1 ∨ dy = 0 ∨ dy = 1) ∧ ¬ (dx = 0 ∧ dy = 0) ∧
    fIx (.tup [.tup [.int 1, .int 1], .tup [.int 1, .int (-1)], .tup [.int (-1), .int 1], .tup [.int (-1), .int (-1)], .tup [.int 1, .int 0], .tup [.int (-1), .int 0], .tup [.int 0, .int 1], .tup [.int 0, .int (-1)], .tup [.int 1, .int 1], .tup [.int (-1), .int 1]]) (.int (z % 10)) = .ok (.tup [.int dx, .int dy]) := by
  have h8 : z % 10 = 0 ∨ z % 10 = 1 ∨ z % 10 = 2 ∨ z % 10 = 3 ∨ z % 10 = 4 ∨ z % 10 = 5 ∨ z % 10 = 6 ∨ z % 10 = 7 ∨ z % 10 = 8 ∨ z % 10 = 9 := by omega
  rcases h8 with h | h | h | h | h | h | h | h | h | h <;> rw [h]
  · exact ⟨1, 1, by decide, by decide, by decide, fIx_tup (by decide) rfl⟩
  · exact ⟨1, -1, by decide, by decide, by decide, fIx_tup (by decide) rfl⟩
  · exact ⟨-1, 1, by decide, by decide, by decide, fIx_tup (by decide) rfl⟩
  · exact ⟨-1, -1, by decide, by decide, by decide, fIx_tup (by decide) rfl⟩
  · exact ⟨1, 0, by decide, by decide, by decide, fIx_tup (by decide) rfl⟩
  · exact ⟨-1, 0, by decide, by decide, by decide, fIx_tup (by decide) rfl⟩
  · exact ⟨0, 1, by decide, by decide, by decide, fIx_tup (by decide) rfl⟩
  · exact ⟨0, -1, by decide, by decide, by decide, fIx_tup (by decide) rfl⟩
  · exact ⟨1, 1, by decide, by decide, by decide, fIx_tup (by decide) rfl⟩
  · exact ⟨-1, 1, by decide, by decide, by decide, fIx_tup (by decide) rfl⟩
theorem law_ball2_is {L : List Int} (hd : Dr L) (a : Int) (a0 : 0 ≤ a) (hl : a + 5 ≤ L.length) (t : Str) (w h : Int) (hw : 0 < w) (hh : 0 < h) : ∃ b : Ball, b.t = t ∧ 0 ≤ b.x ∧ b.x ≤ w ∧ 0 ≤ b.y ∧ b.y ≤ h ∧ (b.dx = -1 ∨ b.dx = 0 ∨ b.dx = 1) ∧ (b.dy = -1 ∨ b.dy = 0 ∨ b.dy = 1) ∧ ¬ (b.dx = 0 ∧ b.dy = 0) ∧ 0 ≤ b.m ∧ b.m ≤ 4 ∧ f_law_ball_v2 [.lst (dI L), .int a, .str t, .int w, .int h] = .ok (blD b) := by
  obtain ⟨z0, _, _, e0⟩ := ixL (L := L) (i := a) (by omega) (by omega) hd
  obtain ⟨z1, _, _, e1⟩ := ixL (L := L) (i := a + 1) (by omega) (by omega) hd
  obtain ⟨z2, _, _, e2⟩ := ixL (L := L) (i := a + 2) (by omega) (by omega) hd
  obtain ⟨z3, _, _, e3⟩ := ixL (L := L) (i := a + 3) (by omega) (by omega) hd
  obtain ⟨z4, _, _, e4⟩ := ixL (L := L) (i := a + 4) (by omega) (by omega) hd
  obtain ⟨dx, dy, h1, h2, h3, hx⟩ := dirs10 z0
  have m1 : fMod (.int z1) (.int (w + 1)) = .ok (.int (z1 % (w + 1))) := fMod_ok (by omega)
  have m2 : fMod (.int z2) (.int (h + 1)) = .ok (.int (z2 % (h + 1))) := fMod_ok (by omega)
  have m3 : fMul (.int (z3 % 5)) (.int (z4 % 2)) = .ok (.int (z3 % 5 * (z4 % 2))) := fMul_l (by omega)
  have r0 := Int.emod_nonneg z1 (show w + 1 ≠ 0 by omega)
  have r1 := Int.emod_lt_of_pos z1 (show 0 < w + 1 by omega)
  have r2 := Int.emod_nonneg z2 (show h + 1 ≠ 0 by omega)
  have r3 := Int.emod_lt_of_pos z2 (show 0 < h + 1 by omega)
  refine ⟨⟨t, z1 % (w + 1), z2 % (h + 1), dx, dy, z3 % 5 * (z4 % 2)⟩, rfl, r0, by show z1 % (w + 1) ≤ w; omega, r2, by show z2 % (h + 1) ≤ h; omega, h1, h2, h3, ?_, ?_, ?_⟩
  · exact Int.mul_nonneg (by omega) (by omega)
  · rcases (show z4 % 2 = 0 ∨ z4 % 2 = 1 by omega) with q | q
    · show z3 % 5 * (z4 % 2) ≤ 4; rw [q]; omega
    · show z3 % 5 * (z4 % 2) ≤ 4; rw [q]; omega
  · clear r0 r1 r2 r3 h1 h2 h3 hd
    generalize D.lst (dI L) = N at *
    unfold f_law_ball_v2 runF p_law_ball_v2 blD
    walk_at "dk"
theorem cg_loop (cs : List Cl) (m : D) (z3 z4 : EV) (h : ∀ c ∈ cs, okC c) : ∀ (z2 : EV), ∃ y2, forL (gN 2) l_law_classes_good_0 (cs.map cD) [.dat (.lst (cs.map cD)), .dat m, z2, z3, z4] = .nx [.dat (.lst (cs.map cD)), .dat m, y2, z3, z4] := by
  intro z2
  obtain ⟨ρ', e, y2, e2⟩ := forL_inv (g := gN 2) (body := l_law_classes_good_0) (ds := cs.map cD) (ρ := [.dat (.lst (cs.map cD)), .dat m, z2, z3, z4]) (fun i ρ => ∃ y2, ρ = [.dat (.lst (cs.map cD)), .dat m, y2, z3, z4]) ⟨z2, rfl⟩ (fun i d ρ hd ⟨y2, hρ⟩ => by
    subst hρ
    obtain ⟨c, hc, rfl⟩ := List.mem_map.mp (List.mem_of_getElem? hd)
    refine ⟨_, _, rfl, .inl ?_, ⟨.dat (cD c), rfl⟩⟩
    have o := h c hc
    have o1 := o.1; have o2 := o.2
    have ty : pIsi "tuple" (pV 2) [.dat (.lst (cs.map cD)), .dat m, .dat (cD c), z3, z4] = .ok (.bl true) := rfl
    have ty2 : pIsi "bool" (pBin fIx (pV 2) (pC (.int 0))) [.dat (.lst (cs.map cD)), .dat m, .dat (cD c), z3, z4] = .ok (.bl false) := rfl
    have ln : fLen [cD c] = .ok (.int 2) := rfl
    unfold l_law_classes_good_0
    simp [pIfS, pWith, pOr, pNot, pTr, ty, pB, pBin, pCall, pCons, pNil, pV, ln, pC, ty2, pChain, o1, o2, pNext])
  exact ⟨y2, by rw [← e2]; exact e⟩
theorem classes_good_is (cs : List Cl) (m : Int) (h : ∀ c ∈ cs, okC c) (hs : sortC cs = cs) (hl : (cs.length : Int) ≤ m) (hz : cs.length ≤ 1000) : f_law_classes_good [.lst (cs.map cD), .int m] = .ok (.bl true) := by
  obtain ⟨y2, lp⟩ := cg_loop cs (.int m) .unb .unb h .unb
  have s1 := sorted_cls (xs := cs.map swC) (le_sz (by simp; omega))
  have lc := pLc_mapT (ps := pIter (pV 0)) (g := gTp (gsCons (gN 3) (gsCons (gN 4) gsNil))) (pe := e_law_classes_good_0) (vs := [3, 4]) (ρ := [.dat (.lst (cs.map cD)), .dat (.int m), y2, .unb, .unb]) (xs := cs) cD cD swC (by rfl) (le_sz (by omega)) (fun a _ => by
    refine ⟨_, rfl, ?_⟩
    unfold e_law_classes_good_0
    walk_at "dk"
    rfl)
  have lc2 := pLc_mapT (ps := pIter (pCall fSorted (pCons (pLc (pIter (pV 0)) (gTp (gsCons (gN 3) (gsCons (gN 4) gsNil))) pYes e_law_classes_good_0 [3, 4]) pNil))) (g := gN 2) (pe := e_law_classes_good_1) (vs := [2]) (ρ := [.dat (.lst (cs.map cD)), .dat (.int m), y2, .unb, .unb]) (xs := (cs.map swC).mergeSort pLe) cD cD swC (by simp [-List.map_map, pIter, pCall, pCons, pNil, lc, s1]) (le_sz (by rw [List.length_mergeSort]; simp; omega)) (fun a _ => by
    refine ⟨_, rfl, ?_⟩
    unfold e_law_classes_good_1
    walk_at "dk"
    rfl)
  have so : ((cs.map swC).mergeSort pLe).map swC = cs := hs
  rw [so] at lc2
  have eq := fEq_refl (lay_cDs cs) (by decide)
  have nl : ¬ m < (cs.length : Int) := by omega
  have ty : pIsi "list" (pV 0) [.dat (.lst (cs.map cD)), .dat (.int m), .unb, .unb, .unb] = .ok (.bl true) := rfl
  unfold f_law_classes_good runF p_law_classes_good
  simp [-List.map_map, pSeq, pIfS, pWith, pOr, pNot, pTr, ty, pB, pBin, pCall, pCons, pNil, pV, nl, pNext, pFor, pIter, lp, pRet, lc2, eq]
def hitsM (cs : List Cl) (t : Int) : Nat := (cs.filter fun c => decide ((t - c.1) % c.2 = 0)).length
theorem law_hits_is (cs : List Cl) (t : Int) (h : ∀ c ∈ cs, okC c) (hl : cs.length ≤ 1000) : f_law_hits [.lst (cs.map cD), .int t] = .ok (.int (hitsM cs t)) := by
  have lc := pLc_filterT (ps := pIter (pV 0)) (g := gN 2) (pt := t_law_hits_0) (pe := e_law_hits_0) (vs := [2]) (ρ := [.dat (.lst (cs.map cD)), .dat (.int t), .unb]) (xs := cs) cD cD (fun c => decide ((t - c.1) % c.2 = 0)) id (by rfl) (le_sz (by omega)) (fun a ha => by
    have o := h a ha
    have p : 0 < a.2 := by have := o.1; have := o.2; omega
    refine ⟨_, rfl, ?_, fun _ => rfl⟩
    unfold t_law_hits_0
    walk_at "dk")
  unfold f_law_hits runF p_law_hits hitsM
  simp [-List.map_map, pRet, pWith, pCall, pCons, pNil, lc]
theorem hits_one {cs : List Cl} {t : Int} (h : ∀ c ∈ cs, okC c) (hp : cs.Pairwise apart) : hitsM cs t = if anyB cs t = true then 1 else 0 := by
  unfold hitsM
  induction cs with
  | nil => rfl
  | cons c cs ih =>
    obtain ⟨p1, p2⟩ := List.pairwise_cons.mp hp
    have ih := ih (fun d hd => h d (List.mem_cons_of_mem _ hd)) p2
    have o := h c List.mem_cons_self
    have iff : ((t - c.1) % c.2 = 0) ↔ inC c t := by
      rw [inC_iff o]
      exact ⟨Int.dvd_of_emod_eq_zero, Int.emod_eq_zero_of_dvd⟩
    have ac : (anyB (c :: cs) t = true) ↔ (inC c t ∨ anyB cs t = true) := by rw [anyB_iff, inL_cons, anyB_iff]
    by_cases q : inC c t
    · rw [List.filter_cons_of_pos (by exact decide_eq_true (iff.mpr q)), List.length_cons, ih]
      have n : ¬ anyB cs t = true := fun z => by
        obtain ⟨d, hd, hi⟩ := anyB_iff.mp z
        exact p1 d hd t ⟨q, hi⟩
      rw [if_neg n, if_pos (ac.mpr (.inl q))]
    · rw [List.filter_cons_of_neg (by simpa using fun z => q (iff.mp z)), ih]
      by_cases z : anyB cs t = true
      · rw [if_pos z, if_pos (ac.mpr (.inr z))]
      · rw [if_neg z, if_neg (fun y => (ac.mp y).elim q z)]
end DL
end

section
set_option linter.all false
set_option maxRecDepth 100000
set_option maxHeartbeats 4000000
set_option exponentiation.threshold 2000
namespace DL
open PySem L2
local macro_rules | `(tactic| walk_at "dl") => `(tactic| simp (disch := first | assumption | omega) [-List.map_map, pSeq, pSet, pSetO, pWith, pBin, pV, pVo, pC, pCall, pCons, pNil, pTup, pLst, pUn, pIf, pIfS, pRet, pDrop, pAsg, pPar, pAug, pApp, pFrz, frzE, pB, pTr, pNot, pAnd, pOr, pAndV, pOrV, pNotV, pNotT, pChain, pNext, pFn, arity, pIter, pFor, pRg1, pRg2, pSl, pNo, pPart, pWhile, fuelI, pIsi, pIsiT, tyN, isiOk, isiB, isiAny, pLc, pYes, lcL, wipeE, pMeth, qStm, qFld, qPut, qKeep, qRest, pEnum2, enumOf, enumD, sz_eq, pDPutT, dKeys, dKey, pBestD, pIsC, List.getElem?_cons_zero, List.getElem?_cons_succ, *])
local macro_rules | `(tactic| walk_at "dk") => `(tactic| simp (disch := first | assumption | omega) [-List.map_map, pSeq, pSet, pSetO, pWith, pBin, pV, pVo, pC, pCall, pCons, pNil, pTup, pLst, pUn, pIf, pIfS, pRet, pDrop, pAsg, pPar, pAug, pApp, pFrz, frzE, pB, pTr, pNot, pAnd, pOr, pAndV, pOrV, pNotV, pNotT, pChain, pNext, pFn, arity, pIter, pFor, pRg1, pRg2, pSl, pNo, pPart, pWhile, fuelI, pIsi, pIsiT, tyN, isiOk, isiB, isiAny,  qStm, qFld, qPut, qKeep, qRest, pEnum2, enumOf, enumD, sz_eq, pDPutT, dKeys, dKey, pBestD, pIsC, wipeE, List.getElem?_cons_zero, List.getElem?_cons_succ, *])
/-! ## methods -/
def methD (C m : Str) (f : List D → Rs D) (d : D) (r : Rs (List D)) : Rs D := match d with
  | .ins C' ns fs => if C' = C ∧ m ∉ ns then r.bind fun ds => f (.ins C' ns fs :: ds) else .no
  | _ => .no
theorem pMeth_eq {C m : Str} {f : List D → Rs D} {p : Ev → Rs D} {q : Ev → Rs (List D)} {ρ : Ev} : pMeth C m f p q ρ = (p ρ).bind fun d => methD C m f d (q ρ) := rfl
theorem methD_tm {s : Int} {e : Option Int} {cs : List Cl} {m : Str} {f : List D → Rs D} {r : Rs (List D)} (hm : m ∉ (["start", "end", "classes"] : List Str)) : methD "Times" m f (tmD s e cs) r = r.bind fun ds => f (tmD s e cs :: ds) := by
  show (if (("Times" : Str) = "Times" ∧ m ∉ (["start", "end", "classes"] : List Str)) then _ else _) = _
  rw [if_pos ⟨rfl, hm⟩]; rfl
theorem methD_tab {w h : Int} {pk : D} {m : Str} {f : List D → Rs D} {r : Rs (List D)} (hm : m ∉ (["width", "height", "pockets"] : List Str)) : methD "Table" m f (tabP w h pk) r = r.bind fun ds => f (tabP w h pk :: ds) := by
  show (if (("Table" : Str) = "Table" ∧ m ∉ (["width", "height", "pockets"] : List Str)) then _ else _) = _
  rw [if_pos ⟨rfl, hm⟩]; rfl
section
variable {s : Int} {e : Option Int} {cs : List Cl} {w h : Int} {pk : D} {f : List D → Rs D} {r : Rs (List D)}
@[simp] theorem methD_holds : methD "Times" "holds" f (tmD s e cs) r = r.bind fun ds => f (tmD s e cs :: ds) := methD_tm (by decide)
@[simp] theorem methD_next : methD "Times" "next_from" f (tmD s e cs) r = r.bind fun ds => f (tmD s e cs :: ds) := methD_tm (by decide)
@[simp] theorem methD_number : methD "Times" "number_to" f (tmD s e cs) r = r.bind fun ds => f (tmD s e cs :: ds) := methD_tm (by decide)
@[simp] theorem methD_within : methD "Times" "is_within" f (tmD s e cs) r = r.bind fun ds => f (tmD s e cs :: ds) := methD_tm (by decide)
@[simp] theorem methD_empty : methD "Times" "is_empty" f (tmD s e cs) r = r.bind fun ds => f (tmD s e cs :: ds) := methD_tm (by decide)
@[simp] theorem methD_point : methD "Table" "is_point" f (tabP w h pk) r = r.bind fun ds => f (tabP w h pk :: ds) := methD_tab (by decide)
@[simp] theorem methD_check : methD "Table" "check_point" f (tabP w h pk) r = r.bind fun ds => f (tabP w h pk :: ds) := methD_tab (by decide)
@[simp] theorem methD_pocket : methD "Table" "is_pocket" f (tabP w h pk) r = r.bind fun ds => f (tabP w h pk :: ds) := methD_tab (by decide)
@[simp] theorem methD_edge : methD "Table" "is_edge" f (tabP w h pk) r = r.bind fun ds => f (tabP w h pk :: ds) := methD_tab (by decide)
@[simp] theorem methD_corner : methD "Table" "is_corner" f (tabP w h pk) r = r.bind fun ds => f (tabP w h pk :: ds) := methD_tab (by decide)
end
@[simp] theorem fInt_b {b : Bool} : fInt [.bl b] = .ok (.int (if b then 1 else 0)) := rfl
theorem row_0 {w h : Int} {b : Ball} {k : Int} : fIx (rowM w h b k) (.int 0) = .ok (.int (paM w b.x b.dx k)) := fIx_tup (by decide) rfl
theorem row_1 {w h : Int} {b : Ball} {k : Int} : fIx (rowM w h b k) (.int 1) = .ok (.int (paM h b.y b.dy k)) := fIx_tup (by decide) rfl
/-- == of booleans that agree -/
theorem fNe_bb {b : Bool} : fNe (.bl b) (.bl b) = .ok (.bl false) := by show Rs.ok (D.bl (!(b == b))) = _; simp
theorem fNe_ii {i : Int} : fNe (.int i) (.int i) = .ok (.bl false) := by rw [fNe_int]; simp
def isCD (C : Str) : D → Rs D
  | .ins C' _ _ => if C' = C then .ok (.bl true) else .no
  | _ => .no
theorem pIsC_eq {C : Str} {p : Ev → Rs D} {ρ : Ev} : pIsC C p ρ = (p ρ).bind (isCD C) := by
  unfold pIsC
  congr 1
@[simp] theorem isCD_tm {s : Int} {e : Option Int} {cs : List Cl} : isCD "Times" (tmD s e cs) = .ok (.bl true) := rfl
@[simp] theorem isCD_tab {w h : Int} {pk : D} : isCD "Table" (tabP w h pk) = .ok (.bl true) := rfl
theorem nums_sub (m i : Int) : m + i - m = i := by omega
end DL
end

section
set_option linter.all false
set_option maxRecDepth 100000
set_option maxHeartbeats 4000000
set_option exponentiation.threshold 2000
namespace DL
open PySem L2
local macro_rules | `(tactic| walk_at "dl") => `(tactic| simp (disch := first | assumption | omega) [-List.map_map, pSeq, pSet, pSetO, pWith, pBin, pV, pVo, pC, pCall, pCons, pNil, pTup, pLst, pUn, pIf, pIfS, pRet, pDrop, pAsg, pPar, pAug, pApp, pFrz, frzE, pB, pTr, pNot, pAnd, pOr, pAndV, pOrV, pNotV, pNotT, pChain, pNext, pFn, arity, pIter, pFor, pRg1, pRg2, pSl, pNo, pPart, pWhile, fuelI, pIsi, pIsiT, tyN, isiOk, isiB, isiAny, pLc, pYes, lcL, wipeE, pMeth, qStm, qFld, qPut, qKeep, qRest, pEnum2, enumOf, enumD, sz_eq, pDPutT, dKeys, dKey, pBestD, pIsC, List.getElem?_cons_zero, List.getElem?_cons_succ, *])
local macro_rules | `(tactic| walk_at "dk") => `(tactic| simp (disch := first | assumption | omega) [-List.map_map, pSeq, pSet, pSetO, pWith, pBin, pV, pVo, pC, pCall, pCons, pNil, pTup, pLst, pUn, pIf, pIfS, pRet, pDrop, pAsg, pPar, pAug, pApp, pFrz, frzE, pB, pTr, pNot, pAnd, pOr, pAndV, pOrV, pNotV, pNotT, pChain, pNext, pFn, arity, pIter, pFor, pRg1, pRg2, pSl, pNo, pPart, pWhile, fuelI, pIsi, pIsiT, tyN, isiOk, isiB, isiAny,  qStm, qFld, qPut, qKeep, qRest, pEnum2, enumOf, enumD, sz_eq, pDPutT, dKeys, dKey, pBestD, pIsC, wipeE, List.getElem?_cons_zero, List.getElem?_cons_succ, *])
local macro_rules | `(tactic| walk_at "dm") => `(tactic| simp (disch := first | assumption | omega) [-List.map_map, pSeq, pSet, pSetO, pWith, pBin, pV, pVo, pC, pCall, pCons, pNil, pTup, pLst, pUn, pIf, pIfS, pRet, pDrop, pAsg, pPar, pAug, pApp, pFrz, frzE, pB, pTr, pNot, pAnd, pOr, pAndV, pOrV, pNotV, pNotT, pChain, pNext, pFn, arity, pIter, pFor, pRg1, pRg2, pSl, pNo, pPart, pWhile, fuelI, pIsi, pIsiT, tyN, isiOk, isiB, isiAny,  qStm, qFld, qPut, qKeep, qRest, pEnum2, enumOf, enumD, sz_eq, pDPutT, dKeys, dKey, pBestD, pIsC_eq, wipeE, pMeth_eq, List.getElem?_cons_zero, List.getElem?_cons_succ, *])
theorem row_take2 {w h : Int} {b : Ball} {k : Int} : fSl (rowM w h b k) none (some 2) = .ok (cD (paM w b.x b.dx k, paM h b.y b.dy k)) := by
  have := fSl_tup_take (ds := [.int (paM w b.x b.dx k), .int (paM h b.y b.dy k), .int (stM w b.x b.dx k), .int (stM h b.y b.dy k)]) (k := 2) (by simp)
  exact this
theorem row_take2P {w h : Int} {b : Ball} (f : Fit w h b) (T : TabOk w h) (k : Int) : fSl (rowM w h b k) none (some 2) = .ok (cD (plM w h b (b.m + k))) := by
  rw [row_take2, rowM_pl f T.w0 T.h0]
theorem row_at {w h : Int} {b : Ball} {n : Nat} {i : Int} (h0 : 0 ≤ i) (h1 : i < n) : fIx (.lst (rowsM w h b n)) (.int i) = .ok (rowM w h b i) := by
  have := rowsM_get (w := w) (h := h) (b := b) (n := n) (k := i.toNat) (by omega)
  rw [show ((i.toNat : Nat) : Int) = i by omega] at this
  exact fIx_lst h0 this
/-! ## the first of the minutes found -/
def upTo (s : Int) (P : Int → Bool) (n : Nat) : List Int := ((List.range n).map fun (k : Nat) => s + (k : Int)).filter P
theorem upTo_succ {s : Int} {P : Int → Bool} {n : Nat} : upTo s P (n + 1) = upTo s P n ++ if P (s + n) then [s + n] else [] := by
  unfold upTo
  rw [List.range_succ, List.map_append, List.filter_append]
  congr 1
  cases h : P (s + n) <;> simp [List.filter, h]
theorem upTo_mem {s : Int} {P : Int → Bool} {n : Nat} {t : Int} : t ∈ upTo s P n ↔ s ≤ t ∧ t < s + n ∧ P t = true := by
  unfold upTo
  rw [List.mem_filter, List.mem_map]
  constructor
  · rintro ⟨⟨k, hk, rfl⟩, hp⟩
    have := List.mem_range.mp hk
    exact ⟨by omega, by omega, hp⟩
  · rintro ⟨h0, h1, hp⟩
    exact ⟨⟨(t - s).toNat, List.mem_range.mpr (by omega), by omega⟩, hp⟩
theorem upTo_len {s : Int} {P : Int → Bool} {n : Nat} : (upTo s P n).length ≤ n := by
  unfold upTo
  exact Nat.le_trans (List.length_filter_le _ _) (by simp)
theorem upTo_sorted {s : Int} {P : Int → Bool} {n : Nat} : (upTo s P n).Pairwise (· < ·) := by
  unfold upTo
  refine List.Pairwise.filter _ ?_
  rw [List.pairwise_map]
  exact List.pairwise_lt_range.imp fun {a b} h => by omega
theorem head_le : ∀ {l : List Int} {k : Int}, l.Pairwise (· < ·) → k ∈ l → ∃ h, l.head? = some h ∧ h ≤ k ∧ h ∈ l
  | a :: l, k, hp, hk => by
    refine ⟨a, rfl, ?_, List.mem_cons_self⟩
    rcases List.mem_cons.mp hk with rfl | hk
    · exact Int.le_refl _
    · exact Int.le_of_lt ((List.pairwise_cons.mp hp).1 k hk)
theorem head_next {s : Int} {P : Int → Bool} {n : Nat} {Q : Int → Prop} {m : Int} {o : Option Int} (hQ : ∀ t, Q t ↔ s ≤ t ∧ P t = true) (ho : NextOf Q m o) (hb : ∀ k, o = some k → k < s + n) : ((upTo s P n).filter fun t => decide (m ≤ t)).head? = o := by
  cases o with
  | none =>
    have e : ((upTo s P n).filter fun t => decide (m ≤ t)) = [] := by
      rw [List.filter_eq_nil_iff]
      intro t ht hm
      have h := upTo_mem.mp ht
      exact ho t (of_decide_eq_true hm) ((hQ t).mpr ⟨h.1, h.2.2⟩)
    rw [e]; rfl
  | some k =>
    obtain ⟨h1, h2, h3⟩ := ho
    have q := (hQ k).mp h2
    have mk : k ∈ (upTo s P n).filter fun t => decide (m ≤ t) := List.mem_filter.mpr ⟨upTo_mem.mpr ⟨q.1, hb k rfl, q.2⟩, decide_eq_true h1⟩
    obtain ⟨h, e1, e2, e3⟩ := head_le (upTo_sorted.filter _) mk
    rw [e1]
    obtain ⟨f1, f2⟩ := List.mem_filter.mp e3
    have g := upTo_mem.mp f1
    by_cases z : h = k
    · rw [z]
    · exact absurd ((hQ h).mpr ⟨g.1, g.2.2⟩) (h3 h (of_decide_eq_true f2) (by omega))
theorem fIx_head {H : List Int} : fIx (.lst (H.map .int ++ [.non])) (.int 0) = .ok (oi H.head?) := by
  cases H with
  | nil => exact fIx_lst (by decide) rfl
  | cons a l => exact fIx_lst (by decide) rfl
theorem fNe_oi {o : Option Int} : fNe (oi o) (oi o) = .ok (.bl false) := by
  cases o with
  | none => exact fNe_non
  | some i => exact fNe_ii
theorem fEq_oi {o : Option Int} : fEq (oi o) (oi o) = .ok (.bl true) := by
  cases o with
  | none =>
    show fEq .non .non = _
    rw [fEq_shp (shp_lay (lay_non (k := 0)) (by decide)) (shp_lay (lay_non (k := 0)) (by decide)) (fun x y e => by cases e), deq_refl (lay_non (k := 0))]
  | some i => show fEq (.int i) (.int i) = _; rw [fEq_int]; simp
/-! ## periods -/
theorem per60 {w h : Int} (w0 : 1 ≤ w) (w1 : w ≤ 6) (h0 : 1 ≤ h) (h1 : h ≤ 6) : ∃ q : Int, 0 < q ∧ q ≤ 60 ∧ 2 * w ∣ q ∧ 2 * h ∣ q := by
  have a : w = 1 ∨ w = 2 ∨ w = 3 ∨ w = 4 ∨ w = 5 ∨ w = 6 := by omega
  have b : h = 1 ∨ h = 2 ∨ h = 3 ∨ h = 4 ∨ h = 5 ∨ h = 6 := by omega
  refine ⟨(Int.lcm (2 * w) (2 * h) : Nat), ?_⟩
  rcases a with rfl | rfl | rfl | rfl | rfl | rfl <;> rcases b with rfl | rfl | rfl | rfl | rfl | rfl <;> decide
theorem foM_per {s p q : Int} (h : 2 * s ∣ q) : foM s (p + q) = foM s p := by
  refine foM_mod ?_
  obtain ⟨k, rfl⟩ := h
  rw [Int.add_mul_emod_self_left]
theorem plM_per {w h : Int} {b : Ball} {q : Int} (hw : 2 * w ∣ q) (hh : 2 * h ∣ q) (t : Int) : plM w h b (t + q) = plM w h b t := by
  unfold plM
  have e1 : b.x + b.dx * (t + q - b.m) = b.x + b.dx * (t - b.m) + b.dx * q := by rw [show t + q - b.m = (t - b.m) + q by omega, Int.mul_add]; omega
  have e2 : b.y + b.dy * (t + q - b.m) = b.y + b.dy * (t - b.m) + b.dy * q := by rw [show t + q - b.m = (t - b.m) + q by omega, Int.mul_add]; omega
  rw [e1, e2, foM_per (Int.dvd_trans hw (Int.dvd_mul_left _ _)), foM_per (Int.dvd_trans hh (Int.dvd_mul_left _ _))]
/-- the next minute is not more than a period away -/
theorem next_bound {Q : Int → Prop} {P : Int → Prop} {s m q k : Int} (hQ : ∀ t, Q t ↔ s ≤ t ∧ P t) (hq : 0 < q) (per : ∀ t, P (t + q) → P t) (ho : NextOf Q m (some k)) : k < (if s ≤ m then m else s) + q := by
  obtain ⟨h1, h2, h3⟩ := ho
  by_cases z : k < (if s ≤ m then m else s) + q
  · exact z
  · exfalso
    have a : (if s ≤ m then m else s) ≤ k - q := by omega
    have b1 : m ≤ k - q := by split at a <;> omega
    have b2 : s ≤ k - q := by split at a <;> omega
    refine h3 (k - q) b1 (by omega) ((hQ _).mpr ⟨b2, per _ ?_⟩)
    rw [show k - q + q = k by omega]
    exact ((hQ k).mp h2).2
theorem inT_none {s : Int} {cs : List Cl} {P : Int → Prop} (h : ∀ t, inL cs t ↔ P t) (t : Int) : inT s none cs t ↔ s ≤ t ∧ P t := by
  unfold inT wB
  rw [h]
  simp
end DL
end

section
set_option linter.all false
set_option maxRecDepth 100000
set_option maxHeartbeats 4000000
set_option exponentiation.threshold 2000
namespace DL
open PySem L2
local macro_rules | `(tactic| walk_at "dl") => `(tactic| simp (disch := first | assumption | omega) [-List.map_map, pSeq, pSet, pSetO, pWith, pBin, pV, pVo, pC, pCall, pCons, pNil, pTup, pLst, pUn, pIf, pIfS, pRet, pDrop, pAsg, pPar, pAug, pApp, pFrz, frzE, pB, pTr, pNot, pAnd, pOr, pAndV, pOrV, pNotV, pNotT, pChain, pNext, pFn, arity, pIter, pFor, pRg1, pRg2, pSl, pNo, pPart, pWhile, fuelI, pIsi, pIsiT, tyN, isiOk, isiB, isiAny, pLc, pYes, lcL, wipeE, pMeth, qStm, qFld, qPut, qKeep, qRest, pEnum2, enumOf, enumD, sz_eq, pDPutT, dKeys, dKey, pBestD, pIsC, List.getElem?_cons_zero, List.getElem?_cons_succ, *])
local macro_rules | `(tactic| walk_at "dk") => `(tactic| simp (disch := first | assumption | omega) [-List.map_map, pSeq, pSet, pSetO, pWith, pBin, pV, pVo, pC, pCall, pCons, pNil, pTup, pLst, pUn, pIf, pIfS, pRet, pDrop, pAsg, pPar, pAug, pApp, pFrz, frzE, pB, pTr, pNot, pAnd, pOr, pAndV, pOrV, pNotV, pNotT, pChain, pNext, pFn, arity, pIter, pFor, pRg1, pRg2, pSl, pNo, pPart, pWhile, fuelI, pIsi, pIsiT, tyN, isiOk, isiB, isiAny,  qStm, qFld, qPut, qKeep, qRest, pEnum2, enumOf, enumD, sz_eq, pDPutT, dKeys, dKey, pBestD, pIsC, wipeE, List.getElem?_cons_zero, List.getElem?_cons_succ, *])
local macro_rules | `(tactic| walk_at "dm") => `(tactic| simp (disch := first | assumption | omega) [-List.map_map, pSeq, pSet, pSetO, pWith, pBin, pV, pVo, pC, pCall, pCons, pNil, pTup, pLst, pUn, pIf, pIfS, pRet, pDrop, pAsg, pPar, pAug, pApp, pFrz, frzE, pB, pTr, pNot, pAnd, pOr, pAndV, pOrV, pNotV, pNotT, pChain, pNext, pFn, arity, pIter, pFor, pRg1, pRg2, pSl, pNo, pPart, pWhile, fuelI, pIsi, pIsiT, tyN, isiOk, isiB, isiAny,  qStm, qFld, qPut, qKeep, qRest, pEnum2, enumOf, enumD, sz_eq, pDPutT, dKeys, dKey, pBestD, pIsC_eq, wipeE, pMeth_eq, List.getElem?_cons_zero, List.getElem?_cons_succ, *])
theorem fEq_re {k : Nat} {d : D} (h : lay k d) (hk : k ≤ 64) (hs : ∀ x, d ≠ .str x) : fEq d d = .ok (.bl true) := by
  rw [fEq_shp (shp_lay h hk) (shp_lay h hk) (fun x y e => absurd e (hs x)), deq_refl h]
theorem fNe_re {k : Nat} {d : D} (h : lay k d) (hk : k ≤ 64) (hs : ∀ x, d ≠ .str x) : fNe d d = .ok (.bl false) := by
  rw [fNe_shp (shp_lay h hk) (shp_lay h hk) (fun x y e => absurd e (hs x)), deq_refl h]; rfl
theorem deq_str {x y : Str} : deq (.str x) (.str y) = decide (x = y) := by
  show (x == y) = _
  rw [Bool.eq_iff_iff]; simp
theorem in_strs {neg : Bool} {x : Str} {ys : List Str} : fIn2 neg (.str x) (.lst (ys.map .str)) = .ok (.bl (neg ^^ decide (x ∈ ys))) := by
  have ff : (ys.map D.str).all flat = true := by simp [flat]
  have an : ((ys.map D.str).any fun y => deq y (.str x)) = decide (x ∈ ys) := by
    rw [List.any_map, Bool.eq_iff_iff, List.any_eq_true, decide_eq_true_iff]
    constructor
    · rintro ⟨q, hq, h⟩
      have h : deq (.str q) (.str x) = true := h
      rw [deq_str] at h
      rw [← of_decide_eq_true h]; exact hq
    · intro h
      exact ⟨x, h, by show deq (.str x) (.str x) = true; rw [deq_str]; exact decide_eq_true rfl⟩
  show (if flat (.str x) && (ys.map D.str).all flat then Rs.ok (D.bl (neg ^^ (ys.map D.str).any fun y => deq y (.str x))) else _) = _
  rw [ff, an]; rfl
theorem enumD_at {ds : List D} {i : Nat} {d : D} (h : (enumD 0 ds)[i]? = some d) : ∃ e, ds[i]? = some e ∧ d = .tup [.int i, e] := by
  obtain ⟨e, h1, h2⟩ := enumD_get h
  exact ⟨e, h1, by rw [h2, Int.zero_add]⟩
/-- balls of different names -/
structure Fits (w h : Int) (bls : List Ball) : Prop where
  fit : ∀ b ∈ bls, Fit w h b
  nd : (bls.map (·.t)).Nodup
  ln : bls.length ≤ 12
theorem take_names (bls : List Ball) (i : Nat) (T : D) (z2 z3 : EV) : pLc (pIter (pSl fSl (pV 1) pNo (pPart (pV 2)))) (gN 4) pYes e_check_balls_0 [4] [.dat T, .dat (.lst (bls.map blD)), .dat (.int i), z2, z3] = if bls.length ≤ 12 then .ok (.lst (((bls.take i).map (·.t)).map .str)) else pLc (pIter (pSl fSl (pV 1) pNo (pPart (pV 2)))) (gN 4) pYes e_check_balls_0 [4] [.dat T, .dat (.lst (bls.map blD)), .dat (.int i), z2, z3] := by
  split
  · rename_i h
    refine pLc_mapT (xs := bls.take i) blD .str (·.t) ?_ (le_sz (by rw [List.length_take]; omega)) (fun a ha => ⟨_, rfl, ?_⟩)
    · have := @fSl_lst (bls.map blD) none (some (i : Int))
      rw [cutD_take, ← List.map_take] at this
      simp [-List.map_map, -List.map_take, pIter, pSl, pV, pNo, pPart, this]
    · unfold e_check_balls_0
      have := @bl0 a
      simp [pBin, pV, pC, this, wipeE]
  · rfl
theorem check_balls_is (w h : Int) (pk : D) (bls : List Ball) (F : Fits w h bls) : f_check_balls [tabP w h pk, .lst (bls.map blD)] = .ok .non := by
  obtain ⟨ρ', e1, y2, y3, e2⟩ := forL_inv (g := gTp (gsCons (gN 2) (gsCons (gN 3) gsNil))) (body := l_check_balls_0) (ds := enumD 0 (bls.map blD)) (ρ := [.dat (tabP w h pk), .dat (.lst (bls.map blD)), .unb, .unb, .unb])
    (fun i ρ => ∃ z2 z3, ρ = [.dat (tabP w h pk), .dat (.lst (bls.map blD)), z2, z3, .unb])
    ⟨.unb, .unb, rfl⟩ (fun i d ρ hd ⟨z2, z3, hρ⟩ => by
      subst hρ
      obtain ⟨e, he, rfl⟩ := enumD_at hd
      rw [List.getElem?_map, Option.map_eq_some_iff] at he
      obtain ⟨b, hb, rfl⟩ := he
      have hil := (List.getElem?_eq_some_iff.mp hb).1
      have f := F.fit b (List.mem_of_getElem? hb)
      refine ⟨_, _, rfl, .inl ?_, .dat (.int i), .dat (blD b), rfl⟩
      have tk := take_names bls i (tabP w h pk) (.dat (blD b)) .unb
      rw [if_pos F.ln] at tk
      have ni : fIn2 false (.str b.t) (.lst (((bls.take i).map (·.t)).map .str)) = .ok (.bl false) := by
        rw [in_strs]
        have : ¬ b.t ∈ (bls.take i).map (·.t) := fun z => by
          rw [List.map_take] at z
          obtain ⟨j, hj, hj2⟩ := List.mem_iff_getElem.mp z
          rw [List.getElem_take] at hj2
          rw [List.length_take] at hj
          have e3 : (bls.map (·.t))[i]'(by simpa using hil) = b.t := by
            rw [List.getElem_map]
            have := (List.getElem?_eq_some_iff.mp hb).2
            rw [this]
          have := (List.getElem_inj F.nd).mp (hj2.trans e3.symm)
          omega
        rw [decide_eq_false this]; rfl
      have cb := check_ball_is w h pk b (nameM_len f.nm)
      rw [ballM_iff.mpr f, if_pos rfl] at cb
      have b0 := @bl0 b
      generalize tabP w h pk = T at *
      generalize bls.map blD = BL at *
      generalize blD b = B at *
      generalize ((bls.take i).map (·.t)).map D.str = NM at *
      unfold l_check_balls_0
      simp [pSeq, pDrop, pWith, pFn, pCons, pV, pNil, arity, cb, pIfS, pB, pBin, b0, pC, tk, ni, pNext])
  subst e2
  have sz := F.ln
  have z12 : (12 : Int) < (bls.length : Int) ↔ False := ⟨fun z => by omega, False.elim⟩
  unfold f_check_balls runF p_check_balls
  have en : pEnum2 (pCons (pV 1) pNil) [.dat (tabP w h pk), .dat (.lst (bls.map blD)), .unb, .unb, .unb] = .ok (enumD 0 (bls.map blD)) := rfl
  have mb : c_MOST_BALLS = .int 12 := rfl
  simp [-List.map_map, pSeq, pFor, pWith, en, e1, pIfS, pB, pBin, pCall, pCons, pNil, pV, pC, mb, pNext, z12]
/-! ## the minutes of a ball at a point -/
noncomputable def atC (w h : Int) (pk : D) (p : Cl) (b : Ball) : List Cl :=
  open Classical in if z : ∃ cs, f_at_point [tabP w h pk, blD b, cD p] = .ok (tmD b.m none cs) ∧ Tells cs 4 (fun t => plM w h b t = p) then z.choose else []
noncomputable def setD (w h : Int) (pk : D) (p : Cl) (b : Ball) : D := tmD b.m none (atC w h pk p b)
theorem atC_is {w h : Int} {pk : D} (T : TabOk w h) {b : Ball} {p : Cl} (f : Fit w h b) (hp : inTab w h p = true) : f_at_point [tabP w h pk, blD b, cD p] = .ok (setD w h pk p b) ∧ Tells (atC w h pk p b) 4 (fun t => plM w h b t = p) := by
  have z := at_point_is w h pk T b p f hp
  unfold setD atC
  rw [dif_pos z]
  exact z.choose_spec
noncomputable def nxO (P : Int → Prop) (m : Int) : Option Int := open Classical in if z : ∃ o, NextOf P m o then z.choose else none
theorem nxO_is {P : Int → Prop} {m : Int} {o : Option Int} (h : NextOf P m o) : nxO P m = o ∧ NextOf P m (nxO P m) := by
  have z : ∃ o, NextOf P m o := ⟨o, h⟩
  unfold nxO
  rw [dif_pos z]
  exact ⟨z.choose_spec.uniq h, z.choose_spec⟩
/-- the minutes at which a ball is at a point -/
def atP (w h : Int) (p : Cl) (b : Ball) (t : Int) : Prop := b.m ≤ t ∧ plM w h b t = p
theorem set_next {w h : Int} {pk : D} (T : TabOk w h) {b : Ball} {p : Cl} (f : Fit w h b) (hp : inTab w h p = true) (m : Int) : f_Times_next_from [setD w h pk p b, .int m] = .ok (oi (nxO (atP w h p b) m)) ∧ NextOf (atP w h p b) m (nxO (atP w h p b) m) := by
  obtain ⟨_, tl⟩ := atC_is (pk := pk) T f hp
  obtain ⟨o, e2, n⟩ := next_is b.m none (atC w h pk p b) m (fun c hc => (tl.ok c hc).1) (by have := tl.ln; omega)
  have q : inT b.m none (atC w h pk p b) = atP w h p b := funext fun t => propext (inT_none tl.sem t)
  rw [q] at n
  obtain ⟨a, c⟩ := nxO_is n
  exact ⟨by rw [a]; exact e2, c⟩
theorem upTo_zero {s : Int} {P : Int → Bool} : upTo s P 0 = [] := rfl
theorem num_upTo {s : Int} {cs : List Cl} (h : ∀ c ∈ cs, okC c) (hp : cs.Pairwise apart) : ∀ n : Nat, numM s none cs (s + n - 1) = (upTo s (anyB cs) n).length
  | 0 => by rw [numM_before h _ (by omega), upTo_zero]; rfl
  | n + 1 => by
    have st := numM_step (s := s) (e := none) h hp (s + ((n + 1 : Nat) : Int) - 1)
    rw [show s + ((n + 1 : Nat) : Int) - 1 - 1 = s + n - 1 by omega, num_upTo h hp n] at st
    have wb : wB s none (s + ((n + 1 : Nat) : Int) - 1) = true := by unfold wB; simp; omega
    rw [wb, Bool.true_and, show s + ((n + 1 : Nat) : Int) - 1 = s + n by omega] at st
    rw [show s + ((n + 1 : Nat) : Int) - 1 = s + n by omega, st, upTo_succ, List.length_append]
    cases anyB cs (s + n) <;> simp
theorem upTo_le {s m : Int} {P : Int → Bool} {k : Nat} (hk : s + k = m + 1) : ∀ {n : Nat}, k ≤ n → (upTo s P n).filter (fun t => decide (t ≤ m)) = upTo s P k := by
  intro n hn
  induction n with
  | zero => rw [show k = 0 by omega]; rfl
  | succ n ih =>
    by_cases q : k ≤ n
    · rw [upTo_succ, List.filter_append, ih q]
      have : ¬ s + (n : Int) ≤ m := by omega
      cases P (s + n) <;> simp [this]
    · rw [show n + 1 = k by omega]
      exact List.filter_eq_self.mpr fun t ht => decide_eq_true (by have := (upTo_mem.mp ht).2.1; omega)
theorem set_num {w h : Int} {pk : D} (T : TabOk w h) {b : Ball} {p : Cl} (f : Fit w h b) (hp : inTab w h p = true) (m : Int) (n : Nat) (hn : m + 1 ≤ b.m + n) : f_Times_number_to [setD w h pk p b, .int m] = .ok (.int (((upTo b.m (fun t => decide (plM w h b t = p)) n).filter fun t => decide (t ≤ m)).length : Nat)) := by
  obtain ⟨_, tl⟩ := atC_is (pk := pk) T f hp
  have ok := fun c hc => (tl.ok c hc).1
  have e := number_is b.m none (atC w h pk p b) m tl.ok
  have an : anyB (atC w h pk p b) = fun t => decide (plM w h b t = p) := funext fun t => by
    rw [Bool.eq_iff_iff, anyB_iff, tl.sem, decide_eq_true_iff]
  unfold setD
  rw [e]
  by_cases q : b.m ≤ m + 1
  · have k : b.m + ((m + 1 - b.m).toNat : Nat) = m + 1 := by omega
    rw [upTo_le k (by omega), ← an, ← num_upTo ok tl.ap, k]
    rw [show m + 1 - 1 = m by omega]
  · rw [numM_before ok _ (by omega), List.filter_eq_nil_iff.mpr]
    · rfl
    · intro t ht hm
      have := (upTo_mem.mp ht).1
      have := of_decide_eq_true hm
      omega
theorem watched_is (w h : Int) (pk : D) (T : TabOk w h) (bls : List Ball) (F : Fits w h bls) (p : Cl) (hp : inTab w h p = true) (ms : List Int) (hm : ∀ m ∈ ms, 0 ≤ m) (lm : ms.length ≤ 100) : f_watched [tabP w h pk, .lst (bls.map blD), cD p, .lst (ms.map .int)] = .ok (.lst (bls.map (setD w h pk p))) := by
  have cb := check_balls_is w h pk bls F
  have cp := check_point_is w h pk p
  rw [hp, if_pos rfl] at cp
  have l1 := pLc_mapT (ps := pIter (pV 3)) (g := gN 5) (pe := e_watched_0) (vs := [5]) (ρ := [.dat (tabP w h pk), .dat (.lst (bls.map blD)), .dat (cD p), .dat (.lst (ms.map .int)), .unb, .unb]) (xs := ms) .int .bl (fun m => decide (m < 0)) (by rfl) (le_sz (by omega)) (fun a ha => ⟨_, rfl, by unfold e_watched_0; walk_at "dm"⟩)
  have fa := fAny_lst (ks := ms.map fun m => decide (m < 0))
  have z : ((ms.map fun m => decide (m < 0)).any id) = false := by
    rw [List.any_eq_false]
    intro x hx
    obtain ⟨m, h1, rfl⟩ := List.mem_map.mp hx
    have := hm m h1
    simp; omega
  rw [z] at fa
  have l2 := pLc_mapT (ps := pIter (pV 1)) (g := gN 4) (pe := e_watched_1) (vs := [4]) (ρ := [.dat (tabP w h pk), .dat (.lst (bls.map blD)), .dat (cD p), .dat (.lst (ms.map .int)), .unb, .unb]) (xs := bls) blD id (setD w h pk p) (by rfl) (le_sz (by have := F.ln; omega)) (fun a ha => ⟨_, rfl, by
    have e := (atC_is (pk := pk) T (F.fit a ha) hp).1
    generalize tabP w h pk = TT at *
    generalize cD p = PP at *
    generalize blD a = AA at *
    generalize setD w h pk p a = SS at *
    unfold e_watched_1
    walk_at "dm"⟩)
  rw [List.map_id] at l2
  generalize hs : bls.map (setD w h pk p) = S at *
  have mt : methD "Table" "check_point" (arity 2 f_Table_check_point) (tabP w h pk) (.ok [cD p]) = .ok .non := by
    rw [methD_check]; exact cp
  generalize tabP w h pk = TT at *
  generalize bls.map blD = BB at *
  generalize cD p = PP at *
  generalize ms.map D.int = MM at *
  generalize (ms.map fun m => decide (m < 0)).map D.bl = NN at *
  unfold f_watched runF p_watched
  simp [pSeq, pDrop, pWith, pFn, pCons, pV, pNil, arity, cb, pMeth_eq, mt, pIfS, pTr, pCall, l1, fa, pNext, pRet, l2]
end DL
end

section
set_option linter.all false
set_option maxRecDepth 100000
set_option maxHeartbeats 4000000
set_option exponentiation.threshold 2000
namespace DL
open PySem L2
local macro_rules | `(tactic| walk_at "dl") => `(tactic| simp (disch := first | assumption | omega) [-List.map_map, pSeq, pSet, pSetO, pWith, pBin, pV, pVo, pC, pCall, pCons, pNil, pTup, pLst, pUn, pIf, pIfS, pRet, pDrop, pAsg, pPar, pAug, pApp, pFrz, frzE, pB, pTr, pNot, pAnd, pOr, pAndV, pOrV, pNotV, pNotT, pChain, pNext, pFn, arity, pIter, pFor, pRg1, pRg2, pSl, pNo, pPart, pWhile, fuelI, pIsi, pIsiT, tyN, isiOk, isiB, isiAny, pLc, pYes, lcL, wipeE, pMeth, qStm, qFld, qPut, qKeep, qRest, pEnum2, enumOf, enumD, sz_eq, pDPutT, dKeys, dKey, pBestD, pIsC, List.getElem?_cons_zero, List.getElem?_cons_succ, *])
local macro_rules | `(tactic| walk_at "dk") => `(tactic| simp (disch := first | assumption | omega) [-List.map_map, pSeq, pSet, pSetO, pWith, pBin, pV, pVo, pC, pCall, pCons, pNil, pTup, pLst, pUn, pIf, pIfS, pRet, pDrop, pAsg, pPar, pAug, pApp, pFrz, frzE, pB, pTr, pNot, pAnd, pOr, pAndV, pOrV, pNotV, pNotT, pChain, pNext, pFn, arity, pIter, pFor, pRg1, pRg2, pSl, pNo, pPart, pWhile, fuelI, pIsi, pIsiT, tyN, isiOk, isiB, isiAny,  qStm, qFld, qPut, qKeep, qRest, pEnum2, enumOf, enumD, sz_eq, pDPutT, dKeys, dKey, pBestD, pIsC, wipeE, List.getElem?_cons_zero, List.getElem?_cons_succ, *])
local macro_rules | `(tactic| walk_at "dm") => `(tactic| simp (disch := first | assumption | omega) [-List.map_map, pSeq, pSet, pSetO, pWith, pBin, pV, pVo, pC, pCall, pCons, pNil, pTup, pLst, pUn, pIf, pIfS, pRet, pDrop, pAsg, pPar, pAug, pApp, pFrz, frzE, pB, pTr, pNot, pAnd, pOr, pAndV, pOrV, pNotV, pNotT, pChain, pNext, pFn, arity, pIter, pFor, pRg1, pRg2, pSl, pNo, pPart, pWhile, fuelI, pIsi, pIsiT, tyN, isiOk, isiB, isiAny,  qStm, qFld, qPut, qKeep, qRest, pEnum2, enumOf, enumD, sz_eq, pDPutT, dKeys, dKey, pBestD, pIsC_eq, wipeE, pMeth_eq, List.getElem?_cons_zero, List.getElem?_cons_succ, *])
/-! ## the first of several -/
def stepN (d : Option Cl) (o : Option Int) (i : Nat) : Option Cl := match o with
  | none => d
  | some m => match d with
    | none => some (m, (i : Int))
    | some a => if m < a.1 then some (m, (i : Int)) else some a
def dueN (nx : Nat → Option Int) : Nat → Option Cl
  | 0 => none
  | i + 1 => stepN (dueN nx i) (nx i) i
def fndN (nx : Nat → Option Int) : Nat → List Cl
  | 0 => []
  | i + 1 => fndN nx i ++ (match nx i with | none => [] | some m => [(m, (i : Int))])
def bst (a y : Cl) : Cl := if pLt y a then y else a
theorem fnd_due (nx : Nat → Option Int) : ∀ i : Nat, (∀ c ∈ fndN nx i, c.2 < i) ∧ (fndN nx i = [] → dueN nx i = none) ∧ ∀ x r, fndN nx i = x :: r → dueN nx i = some (r.foldl bst x) ∧ (r.foldl bst x).2 < i
  | 0 => ⟨fun c h => by simp [fndN] at h, fun _ => rfl, fun x r h => by simp [fndN] at h⟩
  | i + 1 => by
    obtain ⟨h1, h2, h3⟩ := fnd_due nx i
    cases e : nx i with
    | none =>
      have a : fndN nx (i + 1) = fndN nx i := by simp [fndN, e]
      have b : dueN nx (i + 1) = dueN nx i := by simp [dueN, stepN, e]
      rw [a, b]
      exact ⟨fun c hc => by have := h1 c hc; omega, h2, fun x r z => ⟨(h3 x r z).1, by have := (h3 x r z).2; omega⟩⟩
    | some m =>
      have a : fndN nx (i + 1) = fndN nx i ++ [(m, (i : Int))] := by simp [fndN, e]
      rw [a]
      refine ⟨fun c hc => ?_, fun z => by simp at z, fun x r z => ?_⟩
      · rcases List.mem_append.mp hc with hc | hc
        · have := h1 c hc; omega
        · rw [List.mem_singleton.mp hc]; show (i : Int) < ((i + 1 : Nat) : Int); omega
      · cases f : fndN nx i with
        | nil =>
          rw [f] at z
          have z2 : (m, (i : Int)) = x ∧ [] = r := by simpa using z
          obtain ⟨rfl, rfl⟩ := z2
          refine ⟨?_, by show (i : Int) < ((i + 1 : Nat) : Int); omega⟩
          show stepN (dueN nx i) (nx i) i = _
          rw [h2 f, e]; rfl
        | cons y s =>
          rw [f] at z
          have z2 : y = x ∧ s ++ [(m, (i : Int))] = r := by simpa using z
          obtain ⟨rfl, rfl⟩ := z2
          obtain ⟨g1, g2⟩ := h3 y s f
          rw [List.foldl_append]
          show stepN (dueN nx i) (nx i) i = _ ∧ _
          rw [g1, e]
          generalize s.foldl bst y = c at *
          show (if m < c.1 then some (m, (i : Int)) else some c) = some (bst c (m, (i : Int))) ∧ (bst c (m, (i : Int))).2 < _
          unfold bst pLt
          by_cases q : m < c.1
          · rw [if_pos q]
            simp [q]
            omega
          · rw [if_neg q]
            have n : ¬ (m < c.1 ∨ (m = c.1 ∧ (i : Int) < c.2)) := by omega
            simp only [decide_eq_true_iff]
            rw [if_neg n]
            exact ⟨rfl, by omega⟩
theorem min_pairs {x : Cl} {r : List Cl} {d : D} (hd : itemsL d = some ((x :: r).map cD)) : fMin [d] = .ok (cD (r.foldl bst x)) := by
  show (match itemsL d with | some (x :: xs) => if bestOk (x :: xs) then Rs.ok (bestD dLt x xs) else .no | _ => .no) = _
  rw [hd]
  show (if bestOk ((x :: r).map cD) = true then Rs.ok (bestD dLt (cD x) (r.map cD)) else _) = _
  rw [if_pos (bestOk_pairs _), best_gen cD pLt dLt dLt_pair]
  rfl
theorem fndN_len (nx : Nat → Option Int) : ∀ i, (fndN nx i).length ≤ i
  | 0 => Nat.le_refl 0
  | i + 1 => by
    have := fndN_len nx i
    unfold fndN
    rw [List.length_append]
    split <;> simp <;> omega
/-! ## first_pass and passes_to -/
def bAt (bls : List Ball) (k : Nat) : Ball := bls.getD k ⟨"", 0, 0, 0, 0, 0⟩
theorem bAt_get {bls : List Ball} {k : Nat} (h : k < bls.length) : bls[k]? = some (bAt bls k) := by
  unfold bAt
  rw [List.getD_eq_getElem?_getD, List.getElem?_eq_getElem h]; rfl
theorem bAt_mem {bls : List Ball} {k : Nat} (h : k < bls.length) : bAt bls k ∈ bls := List.mem_of_getElem? (bAt_get h)
noncomputable def nxB (w h : Int) (p : Cl) (m : Int) (bls : List Ball) (k : Nat) : Option Int := nxO (atP w h p (bAt bls k)) m
def dueD (bls : List Ball) : Option Cl → D
  | none => .non
  | some c => .tup [.int c.1, .str (bAt bls c.2.toNat).t]
theorem pairI {m : Int} {i : Nat} : D.tup [.int m, .int (i : Int)] = cD (m, (i : Int)) := rfl
theorem first_pass_is (w h : Int) (pk : D) (T : TabOk w h) (bls : List Ball) (F : Fits w h bls) (p : Cl) (hp : inTab w h p = true) (m : Int) (hm : 0 ≤ m) :
    f_first_pass [tabP w h pk, .lst (bls.map blD), cD p, .int m] = .ok (dueD bls (dueN (nxB w h p m bls) bls.length)) := by
  have wa := watched_is w h pk T bls F p hp [m] (fun x hx => by rw [List.mem_singleton.mp hx]; exact hm) (by simp)
  have sz := F.ln
  generalize hnx : nxB w h p m bls = nx
  obtain ⟨ρ', e1, y6, y7, y8, e2⟩ := forL_inv (g := gTp (gsCons (gN 6) (gsCons (gN 7) gsNil))) (body := l_first_pass_0) (ds := enumD 0 (bls.map (setD w h pk p))) (ρ := [.dat (tabP w h pk), .dat (.lst (bls.map blD)), .dat (cD p), .dat (.int m), .dat (.lst (bls.map (setD w h pk p))), .own (.lst []), .unb, .unb, .unb])
    (fun i ρ => ∃ z6 z7 z8, ρ = [.dat (tabP w h pk), .dat (.lst (bls.map blD)), .dat (cD p), .dat (.int m), .dat (.lst (bls.map (setD w h pk p))), .own (.lst ((fndN nx i).map cD)), z6, z7, z8])
    ⟨.unb, .unb, .unb, rfl⟩ (fun i d ρ hd ⟨z6, z7, z8, hρ⟩ => by
      subst hρ
      obtain ⟨e, he, rfl⟩ := enumD_at hd
      rw [List.getElem?_map, Option.map_eq_some_iff] at he
      obtain ⟨b, hb, rfl⟩ := he
      have hil := (List.getElem?_eq_some_iff.mp hb).1
      have f := F.fit b (List.mem_of_getElem? hb)
      have eb : bAt bls i = b := by
        have := bAt_get hil
        rw [hb] at this
        exact (Option.some.inj this).symm
      have sn := (set_next (pk := pk) T f hp m).1
      have en : nx i = nxO (atP w h p b) m := by rw [← hnx]; unfold nxB; rw [eb]
      rw [← en] at sn
      have l1 := fndN_len nx i
      have mt : methD "Times" "next_from" (arity 2 f_Times_next_from) (setD w h pk p b) (.ok [.int m]) = .ok (oi (nx i)) := by
        unfold setD at sn ⊢
        rw [methD_next]; exact sn
      refine ⟨_, _, rfl, .inl ?_, .dat (.int i), .dat (setD w h pk p b), .dat (oi (nx i)), rfl⟩
      have zz : ((fndN nx i).map cD).length < 16777216 := by rw [List.length_map]; omega
      have f1 : fndN nx (i + 1) = fndN nx i ++ (match nx i with | none => [] | some m => [(m, (i : Int))]) := rfl
      rw [f1, List.map_append]
      clear sn en eb f l1 hb hd f1
      generalize tabP w h pk = TT at *
      generalize bls.map blD = BB at *
      generalize bls.map (setD w h pk p) = SS at *
      generalize setD w h pk p b = SB at *
      generalize cD p = PP at *
      generalize (fndN nx i).map cD = FF at *
      unfold l_first_pass_0
      cases q : nx i with
      | none =>
        rw [q] at mt
        have is : fIsNot .non .non = .ok (.bl false) := rfl
        have o : oi none = .non := rfl
        rw [o] at mt ⊢
        simp [pSeq, pSet, pWith, pMeth_eq, mt, pV, pCons, pNil, pIfS, pB, pBin, pC, is, pNext]
      | some k =>
        rw [q] at mt
        have is : fIsNot (.int k) .non = .ok (.bl true) := rfl
        have o : oi (some k) = .int k := rfl
        rw [o] at mt ⊢
        have s2 : (2 : Nat) ≤ 16777216 := by decide
        simp [pSeq, pSet, pWith, pMeth_eq, mt, pV, pCons, pNil, pIfS, pB, pBin, pC, is, pNext, pApp, pTup, sz_eq, zz]
        rfl)
  have el : (enumD 0 (bls.map (setD w h pk p))).length = bls.length := by rw [enumD_len]; simp
  rw [el] at e2
  subst e2
  obtain ⟨h1, h2, h3⟩ := fnd_due nx bls.length
  cases hf : fndN nx bls.length with
  | nil =>
    rw [h2 hf]
    rw [hf] at e1
    have dn : dueD bls none = .non := rfl
    rw [dn]
    generalize tabP w h pk = TT at *
    generalize bls.map blD = BB at *
    generalize bls.map (setD w h pk p) = SS at *
    generalize cD p = PP at *
    rw [List.map_nil] at e1
    have wa : f_watched [TT, .lst BB, PP, .lst [.int m]] = .ok (.lst SS) := wa
    unfold f_first_pass runF p_first_pass
    have en : pEnum2 (pCons (pV 4) pNil) [.dat TT, .dat (.lst BB), .dat PP, .dat (.int m), .dat (.lst SS), .own (.lst []), .unb, .unb, .unb] = .ok (enumD 0 SS) := rfl
    simp [pSeq, pSet, pWith, pFn, pCons, pV, pNil, arity, pLst, sz_eq, wa, pSetO, pFor, en, e1, pFrz, frzE, pIfS, pNot, pTr, pRet, pC]
  | cons x r =>
    obtain ⟨g1, g2⟩ := h3 x r hf
    rw [g1]
    have g0 : 0 ≤ (r.foldl bst x).2 := by
      have hh : ∀ (n : Nat), ∀ c ∈ fndN nx n, 0 ≤ c.2 := fun n => by
        induction n with
        | zero => intro c hc; simp [fndN] at hc
        | succ n ih =>
          intro c hc
          unfold fndN at hc
          rcases List.mem_append.mp hc with hc | hc
          · exact ih c hc
          · split at hc
            · simp at hc
            · rw [List.mem_singleton.mp hc]; exact Int.natCast_nonneg n
      have mem : ∀ (r : List Cl) (x : Cl), r.foldl bst x ∈ x :: r := fun r => by
        induction r with
        | nil => intro x; simp
        | cons y r ih =>
          intro x
          rw [List.foldl_cons]
          have := ih (bst x y)
          rcases List.mem_cons.mp this with q | q
          · rw [q]; unfold bst; split <;> simp
          · exact List.mem_cons_of_mem _ (List.mem_cons_of_mem _ q)
      have mm := mem r x
      rw [← hf] at mm
      exact hh _ _ mm
    rw [hf] at e1
    have mn := min_pairs (d := .lst ((x :: r).map cD)) rfl
    generalize hc : r.foldl bst x = c at *
    have ix : fIx (.lst (bls.map blD)) (.int c.2) = .ok (blD (bAt bls c.2.toNat)) := fIx_lst g0 (by rw [List.getElem?_map, bAt_get (by omega)]; rfl)
    have b0 := @bl0 (bAt bls c.2.toNat)
    have dn : dueD bls (some c) = .tup [.int c.1, .str (bAt bls c.2.toNat).t] := rfl
    have as : gTp (gsCons (gN 8) (gsCons (gN 6) gsNil)) (cD c) [.dat (tabP w h pk), .dat (.lst (bls.map blD)), .dat (cD p), .dat (.int m), .dat (.lst (bls.map (setD w h pk p))), .dat (.lst ((x :: r).map cD)), y6, y7, y8] = some [.dat (tabP w h pk), .dat (.lst (bls.map blD)), .dat (cD p), .dat (.int m), .dat (.lst (bls.map (setD w h pk p))), .dat (.lst ((x :: r).map cD)), .dat (.int c.2), y7, .dat (.int c.1)] := rfl
    rw [dn]
    have tr : tru (.lst ((x :: r).map cD)) = .ok true := rfl
    clear hc h3 h2 h1 g1 g2 g0 dn
    generalize (bAt bls c.2.toNat).t = nm at *
    generalize blD (bAt bls c.2.toNat) = BA at *
    generalize tabP w h pk = TT at *
    generalize bls.map blD = BB at *
    generalize bls.map (setD w h pk p) = SS at *
    generalize cD p = PP at *
    generalize (x :: r).map cD = FF at *
    generalize cD c = CC at *
    have wa : f_watched [TT, .lst BB, PP, .lst [.int m]] = .ok (.lst SS) := wa
    unfold f_first_pass runF p_first_pass
    have en : pEnum2 (pCons (pV 4) pNil) [.dat TT, .dat (.lst BB), .dat PP, .dat (.int m), .dat (.lst SS), .own (.lst []), .unb, .unb, .unb] = .ok (enumD 0 SS) := rfl
    simp [-tru_lst, pSeq, pSet, pWith, pFn, pCons, pV, pNil, arity, pLst, sz_eq, wa, pSetO, pFor, en, e1, pFrz, frzE, pIfS, pNot, pTr, tr, pRet, pC, pNext, pAsg, pCall, mn, as, pTup, pBin, ix, b0]
theorem zip_maps {α : Type} (f g : α → D) : ∀ xs : List α, zipD (xs.map f) (xs.map g) = xs.map fun x => .tup [f x, g x]
  | [] => rfl
  | x :: xs => by
    show D.tup [f x, g x] :: zipD (xs.map f) (xs.map g) = _
    rw [zip_maps f g xs]; rfl
def cntB (w h : Int) (p : Cl) (m : Int) (n : Nat) (b : Ball) : Nat := ((upTo b.m (fun t => decide (plM w h b t = p)) n).filter fun t => decide (t ≤ m)).length
theorem passes_to_is (w h : Int) (pk : D) (T : TabOk w h) (bls : List Ball) (F : Fits w h bls) (p : Cl) (hp : inTab w h p = true) (m : Int) (hm : 0 ≤ m) (nn : Ball → Nat) (hn : ∀ b ∈ bls, m + 1 ≤ b.m + nn b) :
    f_passes_to [tabP w h pk, .lst (bls.map blD), cD p, .int m] = .ok (.lst (bls.map fun b => .tup [.str b.t, .int (cntB w h p m (nn b) b : Nat)])) := by
  have wa := watched_is w h pk T bls F p hp [m] (fun x hx => by rw [List.mem_singleton.mp hx]; exact hm) (by simp)
  have zz : pZip (pCons (pV 1) (pCons (pV 4) pNil)) [.dat (tabP w h pk), .dat (.lst (bls.map blD)), .dat (cD p), .dat (.int m), .dat (.lst (bls.map (setD w h pk p))), .unb, .unb] = .ok (bls.map fun b => .tup [blD b, setD w h pk p b]) := by
    rw [← zip_maps]; rfl
  have l2 := pLc_mapT (ps := pZip (pCons (pV 1) (pCons (pV 4) pNil))) (g := gTp (gsCons (gN 5) (gsCons (gN 6) gsNil))) (pe := e_passes_to_0) (vs := [5, 6]) (ρ := [.dat (tabP w h pk), .dat (.lst (bls.map blD)), .dat (cD p), .dat (.int m), .dat (.lst (bls.map (setD w h pk p))), .unb, .unb]) (xs := bls) (fun b => .tup [blD b, setD w h pk p b]) id (fun b => .tup [.str b.t, .int (cntB w h p m (nn b) b : Nat)]) zz (le_sz (by have := F.ln; omega)) (fun a ha => ⟨_, rfl, by
    have sn := set_num (pk := pk) T (F.fit a ha) hp m (nn a) (hn a ha)
    have mt : methD "Times" "number_to" (arity 2 f_Times_number_to) (setD w h pk p a) (.ok [.int m]) = .ok (.int (cntB w h p m (nn a) a : Nat)) := by
      unfold setD at sn ⊢
      rw [methD_number]; exact sn
    have b0 := @bl0 a
    generalize cntB w h p m (nn a) a = N at *
    generalize tabP w h pk = TT at *
    generalize cD p = PP at *
    generalize blD a = AA at *
    generalize setD w h pk p a = SS at *
    unfold e_passes_to_0
    simp [pTup, pCons, pNil, pBin, pV, pC, b0, pMeth_eq, mt, wipeE, sz_eq]⟩)
  rw [List.map_id] at l2
  generalize (bls.map fun b => D.tup [.str b.t, .int (cntB w h p m (nn b) b : Nat)]) = R at *
  generalize hs : bls.map (setD w h pk p) = S at *
  generalize tabP w h pk = TT at *
  generalize bls.map blD = BB at *
  generalize cD p = PP at *
  have wa : f_watched [TT, .lst BB, PP, .lst [.int m]] = .ok (.lst S) := wa
  unfold f_passes_to runF p_passes_to
  simp [pSeq, pSet, pWith, pFn, pCons, pV, pNil, arity, pLst, sz_eq, wa, pRet, l2]
end DL
end

section
set_option linter.all false
set_option maxRecDepth 100000
set_option maxHeartbeats 4000000
set_option exponentiation.threshold 2000
namespace DL
open PySem L2
local macro_rules | `(tactic| walk_at "dl") => `(tactic| simp (disch := first | assumption | omega) [-List.map_map, pSeq, pSet, pSetO, pWith, pBin, pV, pVo, pC, pCall, pCons, pNil, pTup, pLst, pUn, pIf, pIfS, pRet, pDrop, pAsg, pPar, pAug, pApp, pFrz, frzE, pB, pTr, pNot, pAnd, pOr, pAndV, pOrV, pNotV, pNotT, pChain, pNext, pFn, arity, pIter, pFor, pRg1, pRg2, pSl, pNo, pPart, pWhile, fuelI, pIsi, pIsiT, tyN, isiOk, isiB, isiAny, pLc, pYes, lcL, wipeE, pMeth, qStm, qFld, qPut, qKeep, qRest, pEnum2, enumOf, enumD, sz_eq, pDPutT, dKeys, dKey, pBestD, pIsC, List.getElem?_cons_zero, List.getElem?_cons_succ, *])
local macro_rules | `(tactic| walk_at "dk") => `(tactic| simp (disch := first | assumption | omega) [-List.map_map, pSeq, pSet, pSetO, pWith, pBin, pV, pVo, pC, pCall, pCons, pNil, pTup, pLst, pUn, pIf, pIfS, pRet, pDrop, pAsg, pPar, pAug, pApp, pFrz, frzE, pB, pTr, pNot, pAnd, pOr, pAndV, pOrV, pNotV, pNotT, pChain, pNext, pFn, arity, pIter, pFor, pRg1, pRg2, pSl, pNo, pPart, pWhile, fuelI, pIsi, pIsiT, tyN, isiOk, isiB, isiAny,  qStm, qFld, qPut, qKeep, qRest, pEnum2, enumOf, enumD, sz_eq, pDPutT, dKeys, dKey, pBestD, pIsC, wipeE, List.getElem?_cons_zero, List.getElem?_cons_succ, *])
local macro_rules | `(tactic| walk_at "dm") => `(tactic| simp (disch := first | assumption | omega) [-List.map_map, pSeq, pSet, pSetO, pWith, pBin, pV, pVo, pC, pCall, pCons, pNil, pTup, pLst, pUn, pIf, pIfS, pRet, pDrop, pAsg, pPar, pAug, pApp, pFrz, frzE, pB, pTr, pNot, pAnd, pOr, pAndV, pOrV, pNotV, pNotT, pChain, pNext, pFn, arity, pIter, pFor, pRg1, pRg2, pSl, pNo, pPart, pWhile, fuelI, pIsi, pIsiT, tyN, isiOk, isiB, isiAny,  qStm, qFld, qPut, qKeep, qRest, pEnum2, enumOf, enumD, sz_eq, pDPutT, dKeys, dKey, pBestD, pIsC_eq, wipeE, pMeth_eq, List.getElem?_cons_zero, List.getElem?_cons_succ, *])
def nms : List Str := ["red", "blue", "white", "black"]
theorem nms_ok : ∀ t ∈ nms, nameM t = true := by decide +kernel
theorem nm_strOk : ∀ {t : Str}, t ∈ nms → PyData.strOk t = true := by
  have h : ∀ t ∈ nms, PyData.strOk t = true := by decide +kernel
  exact fun {t} => h t
theorem lay_ball {b : Ball} (h : PyData.strOk b.t = true) : lay 1 (blD b) := lay_tup fun d hd => by
  simp at hd
  rcases hd with rfl | rfl | rfl | rfl | rfl | rfl
  · exact lay_str h
  all_goals exact lay_int
theorem nms_nd : nms.Nodup := by decide +kernel
theorem nms_ix {i : Nat} (h : i < 4) : ∃ t, nms[i]? = some t ∧ fIx (.lst [.str "red", .str "blue", .str "white", .str "black"]) (.int i) = .ok (.str t) := by
  rcases (show i = 0 ∨ i = 1 ∨ i = 2 ∨ i = 3 by omega) with rfl | rfl | rfl | rfl
  · exact ⟨_, rfl, fIx_lst (by decide) rfl⟩
  · exact ⟨_, rfl, fIx_lst (by decide) rfl⟩
  · exact ⟨_, rfl, fIx_lst (by decide) rfl⟩
  · exact ⟨_, rfl, fIx_lst (by decide) rfl⟩
theorem law_balls_is {L : List Int} (hd : Dr L) (a : Int) (a0 : 0 ≤ a) (hl : a + 21 ≤ L.length) (w h : Int) (w0 : 0 < w) (h0 : 0 < h) : ∃ bls : List Ball, bls.length ≤ 4 ∧ Fits w h bls ∧ (∀ b ∈ bls, b.m ≤ 4 ∧ b.t ∈ nms) ∧ f_law_balls_v2 [.lst (dI L), .int a, .int w, .int h] = .ok (.lst (bls.map blD)) := by
  obtain ⟨z, z0, z1, e⟩ := law_pick_is hd a 5 a0 (by omega) (by decide)
  obtain ⟨ρ', e1, bls, y5, l, nm, ft, e2⟩ := forL_inv (g := gN 5) (body := l_law_balls_v2_0) (ds := rgD 0 z.toNat) (ρ := [.dat (.lst (dI L)), .dat (.int a), .dat (.int w), .dat (.int h), .own (.lst []), .unb])
    (fun i ρ => ∃ (bls : List Ball) (z5 : EV), bls.length = i ∧ bls.map (·.t) = nms.take i ∧ (∀ b ∈ bls, Fit w h b ∧ b.m ≤ 4 ∧ b.t ∈ nms) ∧ ρ = [.dat (.lst (dI L)), .dat (.int a), .dat (.int w), .dat (.int h), .own (.lst (bls.map blD)), z5])
    ⟨[], .unb, rfl, rfl, fun b h => by simp at h, rfl⟩ (fun i d ρ hd' ⟨bls, z5, l, nm, ft, hρ⟩ => by
      subst hρ
      obtain ⟨rfl, hi⟩ := rgD_at hd'
      rw [Int.zero_add]
      obtain ⟨t, ht, ix⟩ := nms_ix (i := i) (by omega)
      obtain ⟨b, bt, x0, x1, y0, y1, hdx, hdy, hz, m0, m1, eb⟩ := law_ball2_is hd (a + 1 + 5 * i) (by omega) (by omega) t w h w0 h0
      refine ⟨_, _, rfl, .inl ?_, bls ++ [b], .dat (.int i), by simp [l], ?_, fun c hc => ?_, rfl⟩
      · have sz : (bls.map blD).length < 16777216 := by rw [List.length_map]; omega
        have ml : fMul (.int 5) (.int i) = .ok (.int (5 * i)) := fMul_l (by decide)
        rw [List.map_append]
        have one : [b].map blD = [blD b] := rfl
        rw [one]
        clear hd ft nm l bt ht
        generalize D.lst (dI L) = N at *
        generalize bls.map blD = BB at *
        generalize blD b = B at *
        unfold l_law_balls_v2_0
        simp [pApp, pFn, pCons, pV, pNil, pBin, pC, pLst, arity, sz_eq, ix, ml, eb, pWith, sz]
      · rw [List.map_append, nm, List.take_add_one, ht, List.map_cons, bt]; rfl
      · rcases List.mem_append.mp hc with hc | hc
        · exact ft c hc
        · rw [List.mem_singleton.mp hc]
          exact ⟨⟨by rw [bt]; exact nms_ok t (List.mem_of_getElem? ht), x0, x1, y0, y1, m0, Int.le_trans m1 (by decide), hdx, hdy, hz⟩, m1, by rw [bt]; exact List.mem_of_getElem? ht⟩)
  subst e2
  rw [rgD_len] at l nm
  refine ⟨bls, by omega, ⟨fun b hb => (ft b hb).1, by rw [nm]; exact nms_nd.sublist (List.take_sublist _ _), by omega⟩, fun b hb => (ft b hb).2, ?_⟩
  have rg : rgOk z = true := rgOk_of (by omega) (by omega)
  clear ft nm l hd
  generalize D.lst (dI L) = N at *
  generalize bls.map blD = BB at *
  unfold f_law_balls_v2 runF p_law_balls_v2
  walk_at "dm"
theorem rgD_z {n : Nat} : rgD 0 n = (List.range n).map fun (k : Nat) => D.int (k : Int) := by
  unfold rgD
  exact List.map_congr_left fun k _ => by rw [Int.zero_add]
def psL (w h : Int) (p : Cl) (n : Int) (b : Ball) : List Int := upTo b.m (fun t => decide (plM w h b t = p)) (n + 1 - b.m).toNat
theorem law_passed_is (w h : Int) (T : TabOk w h) (bls : List Ball) (F : Fits w h bls) (bm : ∀ b ∈ bls, b.m ≤ 1000) (p : Cl) (n : Int) (n0 : 0 ≤ n) (n1 : n < 1000) : f_law_passed [.int w, .int h, .lst (bls.map blD), cD p, .int n] = .ok (.lst (bls.map fun b => .lst ((psL w h p n b).map .int))) := by
  have ln := F.ln
  obtain ⟨ρ', e1, y6, y7, e2⟩ := forL_inv (g := gN 6) (body := l_law_passed_0) (ds := bls.map blD) (ρ := [.dat (.int w), .dat (.int h), .dat (.lst (bls.map blD)), .dat (cD p), .dat (.int n), .own (.lst []), .unb, .unb, .unb])
    (fun i ρ => ∃ z6 z7, ρ = [.dat (.int w), .dat (.int h), .dat (.lst (bls.map blD)), .dat (cD p), .dat (.int n), .own (.lst ((bls.take i).map fun b => .lst ((psL w h p n b).map .int))), z6, z7, .unb])
    ⟨.unb, .unb, rfl⟩ (fun i d ρ hd ⟨z6, z7, hρ⟩ => by
      subst hρ
      rw [List.getElem?_map, Option.map_eq_some_iff] at hd
      obtain ⟨b, hb, rfl⟩ := hd
      have hil := (List.getElem?_eq_some_iff.mp hb).1
      have f := F.fit b (List.mem_of_getElem? hb)
      have m0 := f.m0
      refine ⟨_, _, rfl, .inl ?_, .dat (blD b), .dat (.lst (rowsM w h b (n + 1).toNat)), rfl⟩
      have wk := law_walk_is w h b n T.w0 T.h0 f.x0 f.x1 f.y0 f.y1 f.dx f.dy n0 (by omega)
      have b5 := @bl5 b
      have bb := bm b (List.mem_of_getElem? hb)
      have rg : rgOk (n + 1 - b.m) = true := rgOk_of (by omega) (by omega)
      have lc := pLc_filterT (ps := pRg1 (pCons (pBin fSub (pBin fAdd (pV 4) (pC (.int 1))) (pBin fIx (pV 6) (pC (.int 5)))) pNil)) (g := gN 8) (pt := t_law_passed_0) (pe := e_law_passed_0) (vs := [8]) (ρ := [.dat (.int w), .dat (.int h), .dat (.lst (bls.map blD)), .dat (cD p), .dat (.int n), .own (.lst ((bls.take i).map fun b => .lst ((psL w h p n b).map .int))), .dat (blD b), .dat (.lst (rowsM w h b (n + 1).toNat)), .unb]) (xs := List.range (n + 1 - b.m).toNat) (fun (k : Nat) => .int (k : Int)) .int (fun (k : Nat) => decide (plM w h b (b.m + (k : Int)) = p)) (fun (k : Nat) => b.m + (k : Int))
        (by simp [pRg1, pCons, pBin, pV, pC, pNil, b5, rg, rgD_z]) (le_sz (by rw [List.length_range]; omega)) (fun k hk => by
          have hk := List.mem_range.mp hk
          have ra := row_at (w := w) (h := h) (b := b) (n := (n + 1).toNat) (i := (k : Int)) (by omega) (by omega)
          have ta := row_take2P f T (k : Int)
          have fe := fEq_pair (a := plM w h b (b.m + (k : Int))) (b := p)
          refine ⟨_, rfl, ?_, fun _ => ?_⟩
          · generalize bls.map blD = BL at *
            generalize blD b = BB at *
            generalize (List.map (fun b => D.lst ((psL w h p n b).map .int)) (bls.take i)) = ZZ at *
            generalize plM w h b (b.m + (k : Int)) = PA at *
            generalize rowM w h b k = RA at *
            generalize D.lst (rowsM w h b (n + 1).toNat) = RR at *
            unfold t_law_passed_0
            simp [pB, pBin, pSl, pV, wipeE, ra, pNo, pPart, pC, ta, fe]
          · generalize bls.map blD = BL at *
            generalize blD b = BB at *
            generalize (List.map (fun b => D.lst ((psL w h p n b).map .int)) (bls.take i)) = ZZ at *
            unfold e_law_passed_0
            simp [pBin, pV, wipeE, pC, b5])
      have fm : ((List.range (n + 1 - b.m).toNat).filter fun (k : Nat) => decide (plM w h b (b.m + (k : Int)) = p)).map (fun (k : Nat) => b.m + (k : Int)) = psL w h p n b := by
        unfold psL upTo
        rw [List.filter_map]; rfl
      rw [fm] at lc
      have sz : ((bls.take i).map fun b => D.lst ((psL w h p n b).map .int)).length < 16777216 := by rw [List.length_map, List.length_take]; omega
      rw [List.take_add_one, hb, List.map_append]
      have one : ((some b).toList.map fun b => D.lst ((psL w h p n b).map .int)) = [.lst ((psL w h p n b).map .int)] := rfl
      rw [one]
      clear fm m0 f rg
      generalize bls.map blD = BL at *
      generalize blD b = BB at *
      generalize (List.map (fun b => D.lst ((psL w h p n b).map .int)) (bls.take i)) = ZZ at *
      generalize D.lst (rowsM w h b (n + 1).toNat) = RR at *
      generalize D.lst ((psL w h p n b).map .int) = PS at *
      unfold l_law_passed_0
      simp [pSeq, pSet, pWith, pFn, pCons, pV, pNil, arity, wk, pApp, lc, sz_eq, sz])
  have el : (bls.map blD).length = bls.length := by simp
  rw [el, List.take_length] at e2
  subst e2
  generalize bls.map blD = BL at *
  generalize (List.map (fun b => D.lst ((psL w h p n b).map .int)) bls) = ZZ at *
  unfold f_law_passed runF p_law_passed
  simp [pSeq, pSetO, pWith, pLst, pNil, sz_eq, pFor, pIter, pV, e1, pFrz, frzE, pRet]
end DL
end

section
set_option linter.all false
set_option maxRecDepth 100000
set_option maxHeartbeats 4000000
set_option exponentiation.threshold 2000
namespace DL
open PySem L2
local macro_rules | `(tactic| walk_at "dl") => `(tactic| simp (disch := first | assumption | omega) [-List.map_map, pSeq, pSet, pSetO, pWith, pBin, pV, pVo, pC, pCall, pCons, pNil, pTup, pLst, pUn, pIf, pIfS, pRet, pDrop, pAsg, pPar, pAug, pApp, pFrz, frzE, pB, pTr, pNot, pAnd, pOr, pAndV, pOrV, pNotV, pNotT, pChain, pNext, pFn, arity, pIter, pFor, pRg1, pRg2, pSl, pNo, pPart, pWhile, fuelI, pIsi, pIsiT, tyN, isiOk, isiB, isiAny, pLc, pYes, lcL, wipeE, pMeth, qStm, qFld, qPut, qKeep, qRest, pEnum2, enumOf, enumD, sz_eq, pDPutT, dKeys, dKey, pBestD, pIsC, List.getElem?_cons_zero, List.getElem?_cons_succ, *])
local macro_rules | `(tactic| walk_at "dk") => `(tactic| simp (disch := first | assumption | omega) [-List.map_map, pSeq, pSet, pSetO, pWith, pBin, pV, pVo, pC, pCall, pCons, pNil, pTup, pLst, pUn, pIf, pIfS, pRet, pDrop, pAsg, pPar, pAug, pApp, pFrz, frzE, pB, pTr, pNot, pAnd, pOr, pAndV, pOrV, pNotV, pNotT, pChain, pNext, pFn, arity, pIter, pFor, pRg1, pRg2, pSl, pNo, pPart, pWhile, fuelI, pIsi, pIsiT, tyN, isiOk, isiB, isiAny,  qStm, qFld, qPut, qKeep, qRest, pEnum2, enumOf, enumD, sz_eq, pDPutT, dKeys, dKey, pBestD, pIsC, wipeE, List.getElem?_cons_zero, List.getElem?_cons_succ, *])
local macro_rules | `(tactic| walk_at "dm") => `(tactic| simp (disch := first | assumption | omega) [-List.map_map, pSeq, pSet, pSetO, pWith, pBin, pV, pVo, pC, pCall, pCons, pNil, pTup, pLst, pUn, pIf, pIfS, pRet, pDrop, pAsg, pPar, pAug, pApp, pFrz, frzE, pB, pTr, pNot, pAnd, pOr, pAndV, pOrV, pNotV, pNotT, pChain, pNext, pFn, arity, pIter, pFor, pRg1, pRg2, pSl, pNo, pPart, pWhile, fuelI, pIsi, pIsiT, tyN, isiOk, isiB, isiAny,  qStm, qFld, qPut, qKeep, qRest, pEnum2, enumOf, enumD, sz_eq, pDPutT, dKeys, dKey, pBestD, pIsC_eq, wipeE, pMeth_eq, List.getElem?_cons_zero, List.getElem?_cons_succ, *])
/-! ## repr -/
theorem e400 : ((10 : Nat) ^ 400).log2 < 1920 := by decide +kernel
def smI (a : Int) : Prop := a.natAbs < 10 ^ 400
theorem smI_of {a : Int} (h : a.natAbs < 2 ^ 1000) : smI a := Nat.lt_of_lt_of_le h (by decide +kernel)
theorem sh_int {a : Int} (h : smI a) : (PyData.shown (.int a)).length ≤ 401 := by
  have e := int_text_length_le10 (k := 400) (by decide) h
  simp only [PyData.shown]
  show (Str.ofString (toString a)).length ≤ 401
  rw [ofString_length]; exact e
theorem sw_int {a : Int} (h : smI a) : PyData.showable (.int a) = true := by
  simp only [PyData.showable]
  refine decide_eq_true ?_
  by_cases z : a.natAbs = 0
  · rw [z]; decide
  · exact (Nat.log2_lt z).mpr (Nat.lt_trans h (by decide +kernel))
theorem tt2 (s t : Str) : (tupleText [s, t]).length = s.length + t.length + 4 := by
  unfold tupleText
  rw [strLen_append, strLen_append]
  have j := join_length_add [s, t] (by simp)
  rw [piled_cons, piled_cons] at j
  have p : piled ([] : List Str) = 0 := rfl
  rw [p] at j
  have e1 : ((("(" : String) : Str)).length = 1 := rfl
  have e3 : (((if ([s, t] : List Str).length == 1 then ",)" else ")" : String) : Str)).length = 1 := rfl
  rw [e1, e3]
  omega
theorem rep_of {d : D} (h1 : shp d = true) (h2 : (toPy d).showable = true) (h3 : (toPy d).hasDict = false) (h4 : (toPy d).shown.length ≤ 1000000) : ∃ z, fRepr [d] = .ok (.str z) := by
  refine ⟨(toPy d).shown, ?_⟩
  have : reprOk d = true := by
    unfold reprOk
    rw [h1, h2, h3, decide_eq_true (le_sz h4)]; rfl
  show (if reprOk d = true then Rs.ok (D.str (toPy d).shown) else .no) = _
  rw [if_pos this]
theorem rep_non : ∃ z, fRepr [.non] = .ok (.str z) := rep_of (shp_lay (lay_non (k := 0)) (by decide)) (by simp [toPy, PyData.showable]) (by simp [toPy, PyData.hasDict]) (by simp [toPy, PyData.shown]; decide)
theorem rep_int {a : Int} (h : smI a) : ∃ z, fRepr [.int a] = .ok (.str z) := rep_of (shp_lay (lay_int (k := 0)) (by decide)) (sw_int h) (by simp [toPy, PyData.hasDict]) (Nat.le_trans (sh_int h) (by decide))
theorem rep_pair {a b : Int} (ha : smI a) (hb : smI b) : ∃ z, fRepr [.tup [.int a, .int b]] = .ok (.str z) := by
  refine rep_of (shp_lay (lay_cD (a, b)) (by decide)) ?_ ?_ ?_
  · simp only [toPy, toPyL, PyData.showable, PyData.showableAll]
    have := sw_int ha; have := sw_int hb
    simp only [PyData.showable] at *
    simp [*]
  · simp [toPy, toPyL, PyData.hasDict, PyData.hasDictAll]
  · have l1 := sh_int ha; have l2 := sh_int hb
    have e : (toPy (.tup [.int a, .int b])).shown = tupleText [(PyData.int a).shown, (PyData.int b).shown] := by simp [toPy, toPyL, PyData.shown, PyData.shownAll]
    rw [e, tt2]; omega
theorem rep_mp {m : Int} {p : Cl} (hm : smI m) (ha : smI p.1) (hb : smI p.2) : ∃ z, fRepr [.tup [.int m, cD p]] = .ok (.str z) := by
  refine rep_of (shp_lay (k := 2) (lay_tup fun d hd => ?_) (by decide)) ?_ ?_ ?_
  · simp at hd
    rcases hd with rfl | rfl
    · exact lay_int
    · exact lay_cD p
  · simp only [cD, toPy, toPyL, PyData.showable, PyData.showableAll]
    have := sw_int ha; have := sw_int hb; have := sw_int hm
    simp only [PyData.showable] at *
    simp [*]
  · simp [cD, toPy, toPyL, PyData.hasDict, PyData.hasDictAll]
  · have l1 := sh_int ha; have l2 := sh_int hb; have l3 := sh_int hm
    have e : (toPy (.tup [.int m, cD p])).shown = tupleText [(PyData.int m).shown, tupleText [(PyData.int p.1).shown, (PyData.int p.2).shown]] := by simp [cD, toPy, toPyL, PyData.shown, PyData.shownAll]
    rw [e, tt2, tt2]; omega
theorem fNe_strr {z : Str} : fNe (.str z) (.str z) = .ok (.bl false) := by
  show Rs.ok (D.bl (!decide (z = z))) = _
  rw [decide_eq_true rfl]; rfl
theorem fEq_strr {z : Str} : fEq (.str z) (.str z) = .ok (.bl true) := by
  show Rs.ok (D.bl (decide (z = z))) = _
  rw [decide_eq_true rfl]
end DL
end

section
set_option linter.all false
set_option maxRecDepth 100000
set_option maxHeartbeats 4000000
set_option exponentiation.threshold 2000
namespace DL
open PySem L2
local macro_rules | `(tactic| walk_at "dl") => `(tactic| simp (disch := first | assumption | omega) [-List.map_map, pSeq, pSet, pSetO, pWith, pBin, pV, pVo, pC, pCall, pCons, pNil, pTup, pLst, pUn, pIf, pIfS, pRet, pDrop, pAsg, pPar, pAug, pApp, pFrz, frzE, pB, pTr, pNot, pAnd, pOr, pAndV, pOrV, pNotV, pNotT, pChain, pNext, pFn, arity, pIter, pFor, pRg1, pRg2, pSl, pNo, pPart, pWhile, fuelI, pIsi, pIsiT, tyN, isiOk, isiB, isiAny, pLc, pYes, lcL, wipeE, pMeth, qStm, qFld, qPut, qKeep, qRest, pEnum2, enumOf, enumD, sz_eq, pDPutT, dKeys, dKey, pBestD, pIsC, List.getElem?_cons_zero, List.getElem?_cons_succ, *])
local macro_rules | `(tactic| walk_at "dk") => `(tactic| simp (disch := first | assumption | omega) [-List.map_map, pSeq, pSet, pSetO, pWith, pBin, pV, pVo, pC, pCall, pCons, pNil, pTup, pLst, pUn, pIf, pIfS, pRet, pDrop, pAsg, pPar, pAug, pApp, pFrz, frzE, pB, pTr, pNot, pAnd, pOr, pAndV, pOrV, pNotV, pNotT, pChain, pNext, pFn, arity, pIter, pFor, pRg1, pRg2, pSl, pNo, pPart, pWhile, fuelI, pIsi, pIsiT, tyN, isiOk, isiB, isiAny,  qStm, qFld, qPut, qKeep, qRest, pEnum2, enumOf, enumD, sz_eq, pDPutT, dKeys, dKey, pBestD, pIsC, wipeE, List.getElem?_cons_zero, List.getElem?_cons_succ, *])
local macro_rules | `(tactic| walk_at "dm") => `(tactic| simp (disch := first | assumption | omega) [-List.map_map, pSeq, pSet, pSetO, pWith, pBin, pV, pVo, pC, pCall, pCons, pNil, pTup, pLst, pUn, pIf, pIfS, pRet, pDrop, pAsg, pPar, pAug, pApp, pFrz, frzE, pB, pTr, pNot, pAnd, pOr, pAndV, pOrV, pNotV, pNotT, pChain, pNext, pFn, arity, pIter, pFor, pRg1, pRg2, pSl, pNo, pPart, pWhile, fuelI, pIsi, pIsiT, tyN, isiOk, isiB, isiAny,  qStm, qFld, qPut, qKeep, qRest, pEnum2, enumOf, enumD, sz_eq, pDPutT, dKeys, dKey, pBestD, pIsC_eq, wipeE, pMeth_eq, List.getElem?_cons_zero, List.getElem?_cons_succ, *])
theorem lt_step_v2 (L : List Int) (hd : Dr L) (a w h : Int) (a0 : 0 ≤ a) (hw : 0 < w) (hh : 0 < h) (k : Nat) (hk : k < 3) (hl : a + 6 ≤ L.length) (ps : List Cl) (hp : ps.length ≤ k) (nd : ps.Nodup) (hi : ∀ p ∈ ps, inTab w h p = true) (z6 : EV) :
    ∃ (qs : List Cl) (y6 : EV), qs.length ≤ k + 1 ∧ qs.Nodup ∧ (∀ p ∈ qs, inTab w h p = true) ∧ l_law_table_v2_0 [.dat (.lst (dI L)), .dat (.int a), .dat (.int w), .dat (.int h), .own (.lst (ps.map cD)), .dat (.int k), z6] = .nx [.dat (.lst (dI L)), .dat (.int a), .dat (.int w), .dat (.int h), .own (.lst (qs.map cD)), .dat (.int k), y6] := by
  obtain ⟨z, z0, z1, e⟩ := ixL (L := L) (i := a + 3 + k) (by omega) (by omega) hd
  have m1 : fMod (.int z) (.int (w + 1)) = .ok (.int (z % (w + 1))) := fMod_ok (by omega)
  have m2 : fMod (.int (z / 7)) (.int (h + 1)) = .ok (.int (z / 7 % (h + 1))) := fMod_ok (by omega)
  have d7 : fDiv (.int z) (.int 7) = .ok (.int (z / 7)) := fDiv_ok (by decide) (by decide)
  have r0 := Int.emod_nonneg z (show w + 1 ≠ 0 by omega)
  have r1 := Int.emod_lt_of_pos z (show 0 < w + 1 by omega)
  have r2 := Int.emod_nonneg (z / 7) (show h + 1 ≠ 0 by omega)
  have r3 := Int.emod_lt_of_pos (z / 7) (show 0 < h + 1 by omega)
  have sz : ps.length < 16777216 := by omega
  have ni := in_pairs (neg := true) (p := (z % (w + 1), z / 7 % (h + 1))) (ps := ps) (c := .lst (ps.map cD)) rfl (shp_cDl _)
  rw [← cD_def] at ni
  by_cases q : (z % (w + 1), z / 7 % (h + 1)) ∈ ps
  · refine ⟨ps, .dat (.tup [.int (z % (w + 1)), .int (z / 7 % (h + 1))]), by omega, nd, hi, ?_⟩
    rw [decide_eq_true q] at ni
    have ni : fIn2 true (.tup [.int (z % (w + 1)), .int (z / 7 % (h + 1))]) (.lst (ps.map cD)) = .ok (.bl false) := ni
    clear hi nd hd
    generalize D.lst (dI L) = N at *
    unfold l_law_table_v2_0
    walk_at "dk"
  · refine ⟨ps ++ [(z % (w + 1), z / 7 % (h + 1))], .dat (.tup [.int (z % (w + 1)), .int (z / 7 % (h + 1))]), by simp; omega, ?_, ?_, ?_⟩
    · rw [List.nodup_append]
      exact ⟨nd, by simp, fun x hx y hy => by rw [List.mem_singleton.mp hy]; exact fun e => q (e ▸ hx)⟩
    · intro p hp
      rcases List.mem_append.mp hp with h1 | h1
      · exact hi p h1
      · rw [List.mem_singleton.mp h1]; exact decide_eq_true ⟨r0, by show z % (w + 1) ≤ w; omega, r2, by show z / 7 % (h + 1) ≤ h; omega⟩
    · rw [decide_eq_false q] at ni
      have ni : fIn2 true (.tup [.int (z % (w + 1)), .int (z / 7 % (h + 1))]) (.lst (ps.map cD)) = .ok (.bl true) := ni
      rw [List.map_append]
      have cc : [(z % (w + 1), z / 7 % (h + 1))].map cD = [.tup [.int (z % (w + 1)), .int (z / 7 % (h + 1))]] := rfl
      rw [cc]
      have sz2 : (ps.map cD).length < 16777216 := by simpa using sz
      clear hi nd hd q cc
      generalize D.lst (dI L) = N at *
      generalize ps.map cD = M at *
      unfold l_law_table_v2_0
      walk_at "dk"
theorem law_table_v2_is {L : List Int} (hd : Dr L) (a : Int) (a0 : 0 ≤ a) (hl : a + 6 ≤ L.length) : ∃ w h : Int, ∃ ps : List Cl, 1 ≤ w ∧ w ≤ 6 ∧ 1 ≤ h ∧ h ≤ 6 ∧ ps.length ≤ 3 ∧ ps.Nodup ∧ (∀ p ∈ ps, inTab w h p = true) ∧ f_law_table_v2 [.lst (dI L), .int a] = .ok (.tup [.int w, .int h, .tup (ps.map cD)]) := by
  obtain ⟨z0, _, _, e0⟩ := ixL (L := L) (i := a) (by omega) (by omega) hd
  obtain ⟨z1, _, _, e1⟩ := ixL (L := L) (i := a + 1) (by omega) (by omega) hd
  obtain ⟨z2, q0, q1, e2⟩ := ixL (L := L) (i := a + 2) (by omega) (by omega) hd
  have hw : 0 < 1 + z0 % 6 := by omega
  have hh : 0 < 1 + z1 % 6 := by omega
  have rg : rgOk (z2 % 4) = true := rgOk_of (by omega) (by omega)
  obtain ⟨ρ', e4, ps, y5, y6, p1, p2, p3, e5⟩ := forL_inv (g := gN 5) (body := l_law_table_v2_0) (ds := rgD 0 (z2 % 4).toNat) (ρ := [.dat (.lst (dI L)), .dat (.int a), .dat (.int (1 + z0 % 6)), .dat (.int (1 + z1 % 6)), .own (.lst []), .unb, .unb])
    (fun i ρ => ∃ (ps : List Cl) (z5 z6 : EV), ps.length ≤ i ∧ ps.Nodup ∧ (∀ p ∈ ps, inTab (1 + z0 % 6) (1 + z1 % 6) p = true) ∧ ρ = [.dat (.lst (dI L)), .dat (.int a), .dat (.int (1 + z0 % 6)), .dat (.int (1 + z1 % 6)), .own (.lst (ps.map cD)), z5, z6])
    ⟨[], .unb, .unb, by simp, List.nodup_nil, fun p h => by simp at h, rfl⟩ (fun i d ρ hd' ⟨ps, z5, z6, h1, h2, h3, hρ⟩ => by
      subst hρ
      obtain ⟨rfl, hi⟩ := rgD_at hd'
      rw [Int.zero_add]
      obtain ⟨qs, y6, g1, g2, g3, g4⟩ := lt_step_v2 L hd a (1 + z0 % 6) (1 + z1 % 6) a0 hw hh i (by omega) hl ps h1 h2 h3 z6
      exact ⟨_, _, rfl, .inl g4, qs, _, y6, g1, g2, g3, rfl⟩)
  subst e5
  rw [rgD_len] at p1
  refine ⟨1 + z0 % 6, 1 + z1 % 6, ps, by omega, by omega, by omega, by omega, by omega, p2, p3, ?_⟩
  clear p1 p2 p3 hd hw hh
  generalize D.lst (dI L) = N at *
  generalize ps.map cD = M at *
  unfold f_law_table_v2 runF p_law_table_v2
  walk_at "dk"
theorem law_ball3_is {L : List Int} (hd : Dr L) (a : Int) (a0 : 0 ≤ a) (hl : a + 5 ≤ L.length) (t : Str) (w h : Int) (hw : 0 < w) (hh : 0 < h) : ∃ b : Ball, b.t = t ∧ 0 ≤ b.x ∧ b.x ≤ w ∧ 0 ≤ b.y ∧ b.y ≤ h ∧ (b.dx = -1 ∨ b.dx = 0 ∨ b.dx = 1) ∧ (b.dy = -1 ∨ b.dy = 0 ∨ b.dy = 1) ∧ ¬ (b.dx = 0 ∧ b.dy = 0) ∧ 0 ≤ b.m ∧ b.m ≤ 4 ∧ f_law_ball_v3 [.lst (dI L), .int a, .str t, .int w, .int h] = .ok (blD b) := by
  obtain ⟨z0, _, _, e0⟩ := ixL (L := L) (i := a) (by omega) (by omega) hd
  obtain ⟨z1, _, _, e1⟩ := ixL (L := L) (i := a + 1) (by omega) (by omega) hd
  obtain ⟨z2, _, _, e2⟩ := ixL (L := L) (i := a + 2) (by omega) (by omega) hd
  obtain ⟨z3, _, _, e3⟩ := ixL (L := L) (i := a + 3) (by omega) (by omega) hd
  obtain ⟨z4, _, _, e4⟩ := ixL (L := L) (i := a + 4) (by omega) (by omega) hd
  obtain ⟨dx, dy, h1, h2, h3, hx⟩ := dirs10 z0
  have m1 : fMod (.int z1) (.int (w + 1)) = .ok (.int (z1 % (w + 1))) := fMod_ok (by omega)
  have m2 : fMod (.int z2) (.int (h + 1)) = .ok (.int (z2 % (h + 1))) := fMod_ok (by omega)
  have m3 : fMul (.int (z3 % 5)) (.int (z4 % 2)) = .ok (.int (z3 % 5 * (z4 % 2))) := fMul_l (by omega)
  have r0 := Int.emod_nonneg z1 (show w + 1 ≠ 0 by omega)
  have r1 := Int.emod_lt_of_pos z1 (show 0 < w + 1 by omega)
  have r2 := Int.emod_nonneg z2 (show h + 1 ≠ 0 by omega)
  have r3 := Int.emod_lt_of_pos z2 (show 0 < h + 1 by omega)
  refine ⟨⟨t, z1 % (w + 1), z2 % (h + 1), dx, dy, z3 % 5 * (z4 % 2)⟩, rfl, r0, by show z1 % (w + 1) ≤ w; omega, r2, by show z2 % (h + 1) ≤ h; omega, h1, h2, h3, ?_, ?_, ?_⟩
  · exact Int.mul_nonneg (by omega) (by omega)
  · rcases (show z4 % 2 = 0 ∨ z4 % 2 = 1 by omega) with q | q
    · show z3 % 5 * (z4 % 2) ≤ 4; rw [q]; omega
    · show z3 % 5 * (z4 % 2) ≤ 4; rw [q]; omega
  · clear r0 r1 r2 r3 h1 h2 h3 hd
    generalize D.lst (dI L) = N at *
    unfold f_law_ball_v3 runF p_law_ball_v3 blD
    walk_at "dk"

/-! ## falls -/
def pAt (ps : List Cl) (k : Nat) : Cl := ps.getD k (0, 0)
theorem pAt_get {ps : List Cl} {k : Nat} (h : k < ps.length) : ps[k]? = some (pAt ps k) := by
  unfold pAt
  rw [List.getD_eq_getElem?_getD, List.getElem?_eq_getElem h]; rfl
theorem pAt_of {ps : List Cl} {k : Nat} {p : Cl} (h : ps[k]? = some p) : pAt ps k = p := by
  have := pAt_get (List.getElem?_eq_some_iff.mp h).1
  rw [h] at this
  exact (Option.some.inj this).symm
def fallD (ps : List Cl) : Option Cl → D
  | none => .non
  | some c => .tup [.int c.1, cD (pAt ps c.2.toNat)]
noncomputable def nxF (w h : Int) (b : Ball) (ps : List Cl) (k : Nat) : Option Int := nxO (atP w h (pAt ps k) b) b.m
theorem fall_of_is (w h : Int) (ps : List Cl) (T : TabOk w h) (hi : ∀ p ∈ ps, inTab w h p = true) (b : Ball) (f : Fit w h b) : f_fall_of [tabP w h (.tup (ps.map cD)), blD b] = .ok (fallD ps (dueN (nxF w h b ps) ps.length)) := by
  have cb := check_ball_is w h (.tup (ps.map cD)) b (nameM_len f.nm)
  rw [ballM_iff.mpr f, if_pos rfl] at cb
  generalize hnx : nxF w h b ps = nx
  obtain ⟨ρ', e1, y3, y4, e2⟩ := forL_inv (g := gN 3) (body := l_fall_of_0) (ds := ps.map cD) (ρ := [.dat (tabP w h (.tup (ps.map cD))), .dat (blD b), .dat .non, .unb, .unb])
    (fun i ρ => ∃ z3 z4, ρ = [.dat (tabP w h (.tup (ps.map cD))), .dat (blD b), .dat (fallD ps (dueN nx i)), z3, z4])
    ⟨.unb, .unb, rfl⟩ (fun i d ρ hd ⟨z3, z4, hρ⟩ => by
      subst hρ
      rw [List.getElem?_map, Option.map_eq_some_iff] at hd
      obtain ⟨p, hp, rfl⟩ := hd
      have hin := hi p (List.mem_of_getElem? hp)
      have ea := (atC_is (pk := .tup (ps.map cD)) T f hin).1
      have sn := (set_next (pk := .tup (ps.map cD)) T f hin b.m).1
      have ep := pAt_of hp
      have en : nx i = nxO (atP w h p b) b.m := by rw [← hnx]; unfold nxF; rw [ep]
      rw [← en] at sn
      have mt : methD "Times" "next_from" (arity 2 f_Times_next_from) (setD w h (.tup (ps.map cD)) p b) (.ok [.int b.m]) = .ok (oi (nx i)) := by
        unfold setD at sn ⊢
        rw [methD_next]; exact sn
      have b5 := @bl5 b
      have du : dueN nx (i + 1) = stepN (dueN nx i) (nx i) i := rfl
      rw [du]
      refine ⟨_, _, rfl, .inl ?_, .dat (cD p), .dat (oi (nx i)), rfl⟩
      have n1 : ∀ k, fallD ps (some (k, (i : Int))) = .tup [.int k, cD p] := fun k => by
        show D.tup [.int k, cD (pAt ps ((i : Int)).toNat)] = _
        rw [Int.toNat_natCast, ep]
      clear hnx sn hi en du cb
      generalize setD w h (.tup (ps.map cD)) p b = SS at *
      generalize tabP w h (.tup (ps.map cD)) = TT at *
      generalize blD b = B at *
      generalize hpp : cD p = P at *
      unfold l_fall_of_0
      cases q : nx i with
      | none =>
        rw [q] at mt
        have o0 : oi none = .non := rfl
        have is : fIsNot .non .non = .ok (.bl false) := rfl
        have st : stepN (dueN nx i) none i = dueN nx i := rfl
        rw [o0] at mt ⊢
        rw [st]
        generalize fallD ps (dueN nx i) = FD at *
        simp [pSeq, pSet, pWith, pMeth_eq, pFn, arity, pCons, pV, pNil, ea, pBin, pC, b5, mt, pIfS, pAnd, pB, is, pNext]
      | some k =>
        rw [q] at mt
        have o0 : oi (some k) = .int k := rfl
        have is : fIsNot (.int k) .non = .ok (.bl true) := rfl
        have s2 : (2 : Nat) ≤ 16777216 := by decide
        rw [o0] at mt ⊢
        cases hd : dueN nx i with
        | none =>
          have st : stepN none (some k) i = some (k, (i : Int)) := rfl
          rw [st, n1]
          have dn : fallD ps none = .non := rfl
          rw [dn]
          have iz : fIs .non .non = .ok (.bl true) := rfl
          simp [pSeq, pSet, pWith, pMeth_eq, pFn, arity, pCons, pV, pNil, ea, pBin, pC, b5, mt, pIfS, pAnd, pOr, pB, is, iz, pNext, pTup, sz_eq]
        | some a =>
          have st : stepN (some a) (some k) i = if k < a.1 then some (k, (i : Int)) else some a := rfl
          rw [st]
          have dn : fallD ps (some a) = .tup [.int a.1, cD (pAt ps a.2.toNat)] := rfl
          have iz : fIs (.tup [.int a.1, cD (pAt ps a.2.toNat)]) .non = .ok (.bl false) := rfl
          have ia : fIx (.tup [.int a.1, cD (pAt ps a.2.toNat)]) (.int 0) = .ok (.int a.1) := fIx_tup (by decide) rfl
          by_cases z : k < a.1
          · rw [if_pos z, n1, dn]
            generalize cD (pAt ps a.2.toNat) = AP at *
            simp [pSeq, pSet, pWith, pMeth_eq, pFn, arity, pCons, pV, pNil, ea, pBin, pC, b5, mt, pIfS, pAnd, pOr, pB, is, iz, ia, z, pNext, pTup, sz_eq]
          · rw [if_neg z, dn]
            generalize cD (pAt ps a.2.toNat) = AP at *
            simp [pSeq, pSet, pWith, pMeth_eq, pFn, arity, pCons, pV, pNil, ea, pBin, pC, b5, mt, pIfS, pAnd, pOr, pB, is, iz, ia, z, pNext, pTup, sz_eq])
  have el : (ps.map cD).length = ps.length := by simp
  rw [el] at e2
  subst e2
  have tp := @tab_p w h (.tup (ps.map cD))
  generalize fallD ps (dueN nx ps.length) = FD at *
  generalize ps.map cD = PC at *
  generalize tabP w h (.tup PC) = TT at *
  generalize blD b = B at *
  unfold f_fall_of runF p_fall_of
  simp [pSeq, pDrop, pWith, pFn, arity, pCons, pV, pNil, cb, pSet, pC, pFor, pIter, pUn, tp, e1, pRet]
theorem first_fall_is {T B F : D} (h : f_fall_of [T, B] = .ok F) : f_first_fall [T, B] = (fIs F .non).bind fun d => (toB d).bind fun b => if b then .ok .non else fIx F (.int 0) := by
  unfold f_first_fall runF p_first_fall
  cases e : fIs F .non with
  | ok d =>
    cases e2 : toB d with
    | ok b =>
      cases b
      · cases e3 : fIx F (.int 0) <;> simp [pSeq, pSet, pWith, pFn, arity, pCons, pV, pNil, h, pRet, pIf, pB, pBin, pC, e, e2, e3]
      · simp [pSeq, pSet, pWith, pFn, arity, pCons, pV, pNil, h, pRet, pIf, pB, pBin, pC, e, e2]
    | err c x => simp [pSeq, pSet, pWith, pFn, arity, pCons, pV, pNil, h, pRet, pIf, pB, pBin, pC, e, e2]
    | no => simp [pSeq, pSet, pWith, pFn, arity, pCons, pV, pNil, h, pRet, pIf, pB, pBin, pC, e, e2]
  | err c x => simp [pSeq, pSet, pWith, pFn, arity, pCons, pV, pNil, h, pRet, pIf, pB, pBin, pC, e]
  | no => simp [pSeq, pSet, pWith, pFn, arity, pCons, pV, pNil, h, pRet, pIf, pB, pBin, pC, e]
end DL
end

section
set_option linter.all false
set_option maxRecDepth 100000
set_option maxHeartbeats 4000000
set_option exponentiation.threshold 2000
namespace DL
open PySem L2
local macro_rules | `(tactic| walk_at "dm") => `(tactic| simp (disch := first | assumption | omega) [-List.map_map, pSeq, pSet, pSetO, pWith, pBin, pV, pVo, pC, pCall, pCons, pNil, pTup, pLst, pUn, pIf, pIfS, pRet, pDrop, pAsg, pPar, pAug, pApp, pFrz, frzE, pB, pTr, pNot, pAnd, pOr, pAndV, pOrV, pNotV, pNotT, pChain, pNext, pFn, arity, pIter, pFor, pRg1, pRg2, pSl, pNo, pPart, pWhile, fuelI, pIsi, pIsiT, tyN, isiOk, isiB, isiAny, qStm, qFld, qPut, qKeep, qRest, pEnum2, enumOf, enumD, sz_eq, pDPutT, dKeys, dKey, pBestD, pIsC_eq, wipeE, pMeth_eq, List.getElem?_cons_zero, List.getElem?_cons_succ, *])
/-! ## repr of nested data -/
structure Rp (k n : Nat) (d : D) : Prop where
  l : lay k d
  s : (toPy d).showable = true
  h : (toPy d).hasDict = false
  n : (toPy d).shown.length ≤ n
theorem Rp.int {a : Int} (h : smI a) {k : Nat} : Rp k 401 (.int a) := ⟨lay_int, sw_int h, by simp [toPy, PyData.hasDict], sh_int h⟩
theorem Rp.non {k : Nat} : Rp k 401 .non := ⟨lay_non, by simp [toPy, PyData.showable], by simp [toPy, PyData.hasDict], by simp [toPy, PyData.shown]; decide⟩
theorem Rp.mono {j k m n : Nat} {d : D} (h : Rp j m d) (hk : j ≤ k) (hn : m ≤ n) : Rp k n d := ⟨lay_mono h.l hk, h.s, h.h, Nat.le_trans h.n hn⟩
theorem rp_all {k n : Nat} : ∀ {ds : List D}, (∀ d ∈ ds, Rp k n d) → PyData.showableAll (toPyL ds) = true ∧ PyData.hasDictAll (toPyL ds) = false ∧ ((PyData.shownAll (toPyL ds)).map (·.length)).sum ≤ ds.length * n ∧ (PyData.shownAll (toPyL ds)).length = ds.length
  | [], _ => by simp [toPyL, PyData.showableAll, PyData.hasDictAll, PyData.shownAll]
  | d :: ds, h => by
    obtain ⟨i1, i2, i3, i4⟩ := rp_all (ds := ds) fun e he => h e (List.mem_cons_of_mem _ he)
    have hd := h d List.mem_cons_self
    refine ⟨?_, ?_, ?_, ?_⟩
    · simp [toPyL, PyData.showableAll, hd.s, i1]
    · simp [toPyL, PyData.hasDictAll, hd.h, i2]
    · have := hd.n
      simp only [toPyL, PyData.shownAll, List.map_cons, List.sum_cons, List.length_cons]
      rw [Nat.succ_mul]; omega
    · simp [toPyL, PyData.shownAll, i4]
theorem Rp.tup {k n : Nat} {ds : List D} (h : ∀ d ∈ ds, Rp k n d) : Rp (k + 1) (ds.length * n + 2 * ds.length + 3) (.tup ds) := by
  obtain ⟨i1, i2, i3, i4⟩ := rp_all h
  refine ⟨lay_tup fun d hd => (h d hd).l, by simp only [toPy, PyData.showable]; exact i1, by simp only [toPy, PyData.hasDict]; exact i2, ?_⟩
  have := tupleText_len_le (PyData.shownAll (toPyL ds))
  have e : (toPy (.tup ds)).shown = tupleText (PyData.shownAll (toPyL ds)) := by simp only [toPy, PyData.shown]
  rw [e]; omega
theorem Rp.lst {k n : Nat} {ds : List D} (h : ∀ d ∈ ds, Rp k n d) : Rp (k + 1) (ds.length * n + 2 * ds.length + 3) (.lst ds) := by
  obtain ⟨i1, i2, i3, i4⟩ := rp_all h
  refine ⟨lay_lst fun d hd => (h d hd).l, by simp only [toPy, PyData.showable]; exact i1, by simp only [toPy, PyData.hasDict]; exact i2, ?_⟩
  have := listText_len_le (PyData.shownAll (toPyL ds))
  have e : (toPy (.lst ds)).shown = listText (PyData.shownAll (toPyL ds)) := by simp only [toPy, PyData.shown]
  rw [e]; omega
theorem Rp.rep {k n : Nat} {d : D} (h : Rp k n d) (hk : k ≤ 64) (hn : n ≤ 1000000) : ∃ z, fRepr [d] = .ok (.str z) := rep_of (shp_lay h.l hk) h.s h.h (Nat.le_trans h.n hn)
theorem Rp.cl {c : Cl} (h1 : smI c.1) (h2 : smI c.2) {k : Nat} : Rp (k + 1) 809 (cD c) := Rp.tup (k := k) (n := 401) (ds := [.int c.1, .int c.2]) fun d hd => by
  simp at hd
  rcases hd with rfl | rfl
  · exact Rp.int h1
  · exact Rp.int h2
end DL
end

section
set_option linter.all false
set_option maxRecDepth 100000
set_option maxHeartbeats 4000000
set_option exponentiation.threshold 2000
namespace DL
open PySem L2
local macro_rules | `(tactic| walk_at "dm") => `(tactic| simp (disch := first | assumption | omega) [-List.map_map, pSeq, pSet, pSetO, pWith, pBin, pV, pVo, pC, pCall, pCons, pNil, pTup, pLst, pUn, pIf, pIfS, pRet, pDrop, pAsg, pPar, pAug, pApp, pFrz, frzE, pB, pTr, pNot, pAnd, pOr, pAndV, pOrV, pNotV, pNotT, pChain, pNext, pFn, arity, pIter, pFor, pRg1, pRg2, pSl, pNo, pPart, pWhile, fuelI, pIsi, pIsiT, tyN, isiOk, isiB, isiAny, qStm, qFld, qPut, qKeep, qRest, pEnum2, enumOf, enumD, sz_eq, pDPutT, dKeys, dKey, pBestD, pIsC_eq, wipeE, pMeth_eq, List.getElem?_cons_zero, List.getElem?_cons_succ, *])
/-! ## try .. except .. as e -/
theorem pTryAs_err {cat : Str → Option Bool} {i : Nat} {p : Ev → Fl} {q : Str → Addr → Ev → Fl} {ρ ρ1 : Ev} {C : Str} {r : Fl} (h : p ρ = .err C none ρ1) (hc : cat C = some true) (ha : ∀ a, wipeFl i (q C a (ρ1.set i (.pin (.ref a)))) = r) : pTryAs cat i p q ρ = r := by
  unfold pTryAs
  rw [h]
  simp only [hc]
  exact anyS_eq ha
theorem pTryAs_nx {cat : Str → Option Bool} {i : Nat} {p : Ev → Fl} {q : Str → Addr → Ev → Fl} {ρ ρ1 : Ev} (h : p ρ = .nx ρ1) : pTryAs cat i p q ρ = .nx ρ1 := by
  unfold pTryAs
  rw [h]
end DL
end

section
set_option linter.all false
set_option maxRecDepth 100000
set_option maxHeartbeats 4000000
set_option exponentiation.threshold 2000
namespace DL
open PySem L2
local macro_rules | `(tactic| walk_at "dl") => `(tactic| simp (disch := first | assumption | omega) [-List.map_map, pSeq, pSet, pSetO, pWith, pBin, pV, pVo, pC, pCall, pCons, pNil, pTup, pLst, pUn, pIf, pIfS, pRet, pDrop, pAsg, pPar, pAug, pApp, pFrz, frzE, pB, pTr, pNot, pAnd, pOr, pAndV, pOrV, pNotV, pNotT, pChain, pNext, pFn, arity, pIter, pFor, pRg1, pRg2, pSl, pNo, pPart, pWhile, fuelI, pIsi, pIsiT, tyN, isiOk, isiB, isiAny, pLc, pYes, lcL, wipeE, pMeth, qStm, qFld, qPut, qKeep, qRest, pEnum2, enumOf, enumD, sz_eq, pDPutT, dKeys, dKey, pBestD, pIsC, List.getElem?_cons_zero, List.getElem?_cons_succ, *])
local macro_rules | `(tactic| walk_at "dk") => `(tactic| simp (disch := first | assumption | omega) [-List.map_map, pSeq, pSet, pSetO, pWith, pBin, pV, pVo, pC, pCall, pCons, pNil, pTup, pLst, pUn, pIf, pIfS, pRet, pDrop, pAsg, pPar, pAug, pApp, pFrz, frzE, pB, pTr, pNot, pAnd, pOr, pAndV, pOrV, pNotV, pNotT, pChain, pNext, pFn, arity, pIter, pFor, pRg1, pRg2, pSl, pNo, pPart, pWhile, fuelI, pIsi, pIsiT, tyN, isiOk, isiB, isiAny,  qStm, qFld, qPut, qKeep, qRest, pEnum2, enumOf, enumD, sz_eq, pDPutT, dKeys, dKey, pBestD, pIsC, wipeE, List.getElem?_cons_zero, List.getElem?_cons_succ, *])
local macro_rules | `(tactic| walk_at "dm") => `(tactic| simp (disch := first | assumption | omega) [-List.map_map, pSeq, pSet, pSetO, pWith, pBin, pV, pVo, pC, pCall, pCons, pNil, pTup, pLst, pUn, pIf, pIfS, pRet, pDrop, pAsg, pPar, pAug, pApp, pFrz, frzE, pB, pTr, pNot, pAnd, pOr, pAndV, pOrV, pNotV, pNotT, pChain, pNext, pFn, arity, pIter, pFor, pRg1, pRg2, pSl, pNo, pPart, pWhile, fuelI, pIsi, pIsiT, tyN, isiOk, isiB, isiAny,  qStm, qFld, qPut, qKeep, qRest, pEnum2, enumOf, enumD, sz_eq, pDPutT, dKeys, dKey, pBestD, pIsC_eq, wipeE, pMeth_eq, List.getElem?_cons_zero, List.getElem?_cons_succ, *])
theorem big_loop {L : List Int} (hd : Dr L) (a : Int) (a0 : 0 ≤ a) (hl : a + 11 ≤ L.length) (lo hi c : EV) : ∃ (t : Int) (y : EV), 0 ≤ t ∧ forL (gN 6) l_law_big_0 (rgD 0 10) [.dat (.lst (dI L)), .dat (.int a), lo, hi, c, .dat (.int 0), .unb] = .nx [.dat (.lst (dI L)), .dat (.int a), lo, hi, c, .dat (.int t), y] := by
  obtain ⟨ρ', e1, t, y, t0, e2⟩ := forL_inv (g := gN 6) (body := l_law_big_0) (ds := rgD 0 10) (ρ := [.dat (.lst (dI L)), .dat (.int a), lo, hi, c, .dat (.int 0), .unb])
    (fun i ρ => ∃ (t : Int) (z : EV), 0 ≤ t ∧ ρ = [.dat (.lst (dI L)), .dat (.int a), lo, hi, c, .dat (.int t), z])
    ⟨0, .unb, Int.le_refl 0, rfl⟩ (fun i d ρ hd' ⟨t, z, t0, hρ⟩ => by
      subst hρ
      obtain ⟨rfl, hi'⟩ := rgD_at hd'
      rw [Int.zero_add]
      obtain ⟨x, x0, _, e⟩ := ixL (L := L) (i := a + 1 + i) (by omega) (by omega) hd
      refine ⟨_, _, rfl, .inl ?_, t * 1009 + x, .dat (.int (i : Int)), by have := Int.mul_nonneg t0 (show (0 : Int) ≤ 1009 by decide); omega, rfl⟩
      have ml : fMul (.int t) (.int 1009) = .ok (.int (t * 1009)) := fMul_r (by decide)
      generalize D.lst (dI L) = N at *
      unfold l_law_big_0
      simp [pSet, pWith, pBin, pV, pC, pCall, pCons, pNil, ml, e])
  subst e2
  exact ⟨t, y, t0, e1⟩
theorem law_big_is {L : List Int} (hd : Dr L) (a lo hi : Int) (a0 : 0 ≤ a) (hl : a + 11 ≤ L.length) (h : lo ≤ hi) : ∃ z : Int, lo ≤ z ∧ z ≤ hi ∧ f_law_big [.lst (dI L), .int a, .int lo, .int hi] = .ok (.int z) := by
  obtain ⟨x, x0, x1, e⟩ := ixL (L := L) (i := a) a0 (by omega) hd
  obtain ⟨x', x0', x1', e'⟩ := ixL (L := L) (i := a + 1) (by omega) (by omega) hd
  have md : fMod (.int x) (.int 6) = .ok (.int (x % 6)) := fMod_ok (by decide)
  have md' : fMod (.int x') (.int 9) = .ok (.int (x' % 9)) := fMod_ok (by decide)
  have r0 := Int.emod_nonneg x' (show (9 : Int) ≠ 0 by decide)
  obtain ⟨t, y, t0, lp⟩ := big_loop hd a a0 hl (.dat (.int lo)) (.dat (.int hi)) (.dat (.int (x % 6)))
  have rg : rgOk 10 = true := rfl
  have w := Int.emod_nonneg t (show hi - lo + 1 ≠ 0 by omega)
  have w2 := Int.emod_lt_of_pos t (show 0 < hi - lo + 1 by omega)
  have mt : fMod (.int t) (.int (hi - lo + 1)) = .ok (.int (t % (hi - lo + 1))) := fMod_ok (by omega)
  have mn : fMin2 [.int hi, .int (lo + x' % 9)] = .ok (.int (if lo + x' % 9 < hi then lo + x' % 9 else hi)) := rfl
  clear hd
  generalize D.lst (dI L) = N at *
  unfold f_law_big runF p_law_big
  by_cases c0 : x % 6 = 0
  · refine ⟨lo, Int.le_refl _, h, ?_⟩
    have fe : fEq (.int (x % 6)) (.int 0) = .ok (.bl true) := by rw [fEq_int, decide_eq_true c0]
    simp [-fEq_int, pSeq, pSet, pWith, pBin, pCall, pCons, pV, pC, pNil, e, md, pIfS, pB, fe, pRet]
  · have fe : fEq (.int (x % 6)) (.int 0) = .ok (.bl false) := by rw [fEq_int, decide_eq_false c0]
    by_cases c1 : x % 6 = 1
    · refine ⟨hi, h, Int.le_refl _, ?_⟩
      have fe1 : fEq (.int (x % 6)) (.int 1) = .ok (.bl true) := by rw [fEq_int, decide_eq_true c1]
      simp [-fEq_int, pSeq, pSet, pWith, pBin, pCall, pCons, pV, pC, pNil, e, md, pIfS, pB, fe, fe1, pRet, pNext]
    · have fe1 : fEq (.int (x % 6)) (.int 1) = .ok (.bl false) := by rw [fEq_int, decide_eq_false c1]
      by_cases c4 : x % 6 < 4
      · refine ⟨if lo + x' % 9 < hi then lo + x' % 9 else hi, by split <;> omega, by split <;> omega, ?_⟩
        have fl : fLt (.int (x % 6)) (.int 4) = .ok (.bl true) := by rw [fLt_int, decide_eq_true c4]
        generalize (if lo + x' % 9 < hi then lo + x' % 9 else hi) = R at *
        simp [-fEq_int, -fLt_int, -fMin2_int, pSeq, pSet, pWith, pBin, pCall, pCons, pV, pC, pNil, e, md, pIfS, pB, fe, fe1, fl, pRet, pNext, e', md', mn]
      · refine ⟨lo + t % (hi - lo + 1), by omega, by omega, ?_⟩
        have fl : fLt (.int (x % 6)) (.int 4) = .ok (.bl false) := by rw [fLt_int, decide_eq_false c4]
        simp [-fEq_int, -fLt_int, pSeq, pSet, pWith, pBin, pCall, pCons, pV, pC, pNil, e, md, pIfS, pB, fe, fe1, fl, pRet, pNext, pFor, pRg1, rg, lp, mt]
end DL
end

section
set_option linter.all false
set_option maxRecDepth 100000
set_option maxHeartbeats 4000000
set_option exponentiation.threshold 2000
namespace DL
open PySem L2
local macro_rules | `(tactic| walk_at "dl") => `(tactic| simp (disch := first | assumption | omega) [-List.map_map, pSeq, pSet, pSetO, pWith, pBin, pV, pVo, pC, pCall, pCons, pNil, pTup, pLst, pUn, pIf, pIfS, pRet, pDrop, pAsg, pPar, pAug, pApp, pFrz, frzE, pB, pTr, pNot, pAnd, pOr, pAndV, pOrV, pNotV, pNotT, pChain, pNext, pFn, arity, pIter, pFor, pRg1, pRg2, pSl, pNo, pPart, pWhile, fuelI, pIsi, pIsiT, tyN, isiOk, isiB, isiAny, pLc, pYes, lcL, wipeE, pMeth, qStm, qFld, qPut, qKeep, qRest, pEnum2, enumOf, enumD, sz_eq, pDPutT, dKeys, dKey, pBestD, pIsC, List.getElem?_cons_zero, List.getElem?_cons_succ, *])
local macro_rules | `(tactic| walk_at "dk") => `(tactic| simp (disch := first | assumption | omega) [-List.map_map, pSeq, pSet, pSetO, pWith, pBin, pV, pVo, pC, pCall, pCons, pNil, pTup, pLst, pUn, pIf, pIfS, pRet, pDrop, pAsg, pPar, pAug, pApp, pFrz, frzE, pB, pTr, pNot, pAnd, pOr, pAndV, pOrV, pNotV, pNotT, pChain, pNext, pFn, arity, pIter, pFor, pRg1, pRg2, pSl, pNo, pPart, pWhile, fuelI, pIsi, pIsiT, tyN, isiOk, isiB, isiAny,  qStm, qFld, qPut, qKeep, qRest, pEnum2, enumOf, enumD, sz_eq, pDPutT, dKeys, dKey, pBestD, pIsC, wipeE, List.getElem?_cons_zero, List.getElem?_cons_succ, *])
local macro_rules | `(tactic| walk_at "dm") => `(tactic| simp (disch := first | assumption | omega) [-List.map_map, pSeq, pSet, pSetO, pWith, pBin, pV, pVo, pC, pCall, pCons, pNil, pTup, pLst, pUn, pIf, pIfS, pRet, pDrop, pAsg, pPar, pAug, pApp, pFrz, frzE, pB, pTr, pNot, pAnd, pOr, pAndV, pOrV, pNotV, pNotT, pChain, pNext, pFn, arity, pIter, pFor, pRg1, pRg2, pSl, pNo, pPart, pWhile, fuelI, pIsi, pIsiT, tyN, isiOk, isiB, isiAny,  qStm, qFld, qPut, qKeep, qRest, pEnum2, enumOf, enumD, sz_eq, pDPutT, dKeys, dKey, pBestD, pIsC_eq, wipeE, pMeth_eq, List.getElem?_cons_zero, List.getElem?_cons_succ, *])
theorem points_is {L : List Int} (hd : Dr L) (a w h : Int) (a0 : 0 ≤ a) (w0 : 0 ≤ w) (h0 : 0 ≤ h) (n : Nat) (hn : n ≤ 100) (hl : a + 7 * n + 14 ≤ L.length) : ∃ ps : List Cl, ps.length ≤ n ∧ ps.Nodup ∧ (∀ p ∈ ps, inTab w h p = true) ∧ f_law_points [.lst (dI L), .int a, .int w, .int h, .int (n : Int)] = .ok (.lst (ps.map cD)) := by
  obtain ⟨nn, hnn⟩ : ∃ z : Int, z = (n : Int) := ⟨_, rfl⟩
  rw [← hnn]
  have en : nn.toNat = n := by omega
  obtain ⟨ρ', e1, ps, y6, y7, p1, p2, p3, e2⟩ := forL_inv (g := gN 6) (body := l_law_points_0) (ds := rgD 0 nn.toNat) (ρ := [.dat (.lst (dI L)), .dat (.int a), .dat (.int w), .dat (.int h), .dat (.int nn), .own (.lst []), .unb, .unb])
    (fun i ρ => ∃ (ps : List Cl) (z6 z7 : EV), ps.length ≤ i ∧ ps.Nodup ∧ (∀ p ∈ ps, inTab w h p = true) ∧ ρ = [.dat (.lst (dI L)), .dat (.int a), .dat (.int w), .dat (.int h), .dat (.int nn), .own (.lst (ps.map cD)), z6, z7])
    ⟨[], .unb, .unb, by simp, List.nodup_nil, fun p h => by simp at h, rfl⟩ (fun i d ρ hd' ⟨ps, z6, z7, g1, g2, g3, hρ⟩ => by
      subst hρ
      obtain ⟨rfl, hi⟩ := rgD_at hd'
      rw [Int.zero_add]
      obtain ⟨x, x0, x1, ex⟩ := law_big_is hd (a + 7 * i) 0 w (by omega) (by omega) w0
      obtain ⟨y, y0, y1, ey⟩ := law_big_is hd (a + 3 + 7 * i) 0 h (by omega) (by omega) h0
      have ml : fMul (.int 7) (.int (i : Int)) = .ok (.int (7 * i)) := fMul_l (by decide)
      have ni := in_pairs (neg := true) (p := (x, y)) (ps := ps) (c := .lst (ps.map cD)) rfl (shp_cDl _)
      have s2 : (2 : Nat) ≤ 16777216 := by decide
      have mk : D.tup [.int x, .int y] = cD (x, y) := rfl
      have sz : (ps.map cD).length < 16777216 := by rw [List.length_map]; omega
      by_cases q : (x, y) ∈ ps
      · refine ⟨_, _, rfl, .inl ?_, ps, .dat (.int (i : Int)), .dat (cD (x, y)), by omega, g2, g3, rfl⟩
        rw [decide_eq_true q] at ni
        have ni : fIn2 true (cD (x, y)) (.lst (ps.map cD)) = .ok (.bl false) := ni
        clear hd g2 g3 q
        generalize D.lst (dI L) = N at *
        generalize cD (x, y) = C at *
        generalize ps.map cD = M at *
        unfold l_law_points_0
        simp [pSeq, pSet, pWith, pTup, pCons, pFn, arity, pBin, pV, pVo, pC, pNil, ml, ex, ey, sz_eq, mk, pIfS, pB, ni, pNext]
      · refine ⟨_, _, rfl, .inl ?_, ps ++ [(x, y)], .dat (.int (i : Int)), .dat (cD (x, y)), by simp; omega, ?_, ?_, rfl⟩
        · rw [decide_eq_false q] at ni
          have ni : fIn2 true (cD (x, y)) (.lst (ps.map cD)) = .ok (.bl true) := ni
          rw [List.map_append]
          have one : [(x, y)].map cD = [cD (x, y)] := rfl
          rw [one]
          clear hd g2 g3 q one
          generalize D.lst (dI L) = N at *
          generalize cD (x, y) = C at *
          generalize ps.map cD = M at *
          unfold l_law_points_0
          simp [pSeq, pSet, pWith, pTup, pCons, pFn, arity, pBin, pV, pVo, pC, pNil, ml, ex, ey, sz_eq, mk, pIfS, pB, ni, pApp, sz]
        · rw [List.nodup_append]
          exact ⟨g2, by simp, fun c hc d hd => by rw [List.mem_singleton.mp hd]; exact fun e => q (e ▸ hc)⟩
        · intro p hp
          rcases List.mem_append.mp hp with hp | hp
          · exact g3 p hp
          · rw [List.mem_singleton.mp hp]; exact decide_eq_true ⟨x0, x1, y0, y1⟩)
  subst e2
  rw [rgD_len, en] at p1
  refine ⟨ps, p1, p2, p3, ?_⟩
  have rg : rgOk nn = true := rgOk_of (by omega) (by omega)
  clear hd p1 p2 p3
  generalize D.lst (dI L) = N at *
  generalize ps.map cD = M at *
  unfold f_law_points runF p_law_points
  simp [pSeq, pSetO, pWith, pLst, pNil, sz_eq, pFor, pRg1, pCons, pV, rg, e1, pFrz, frzE, pRet]
end DL
end

section
set_option linter.all false
set_option maxRecDepth 100000
set_option maxHeartbeats 4000000
set_option exponentiation.threshold 2000
namespace DL
open PySem L2
local macro_rules | `(tactic| walk_at "dl") => `(tactic| simp (disch := first | assumption | omega) [-List.map_map, pSeq, pSet, pSetO, pWith, pBin, pV, pVo, pC, pCall, pCons, pNil, pTup, pLst, pUn, pIf, pIfS, pRet, pDrop, pAsg, pPar, pAug, pApp, pFrz, frzE, pB, pTr, pNot, pAnd, pOr, pAndV, pOrV, pNotV, pNotT, pChain, pNext, pFn, arity, pIter, pFor, pRg1, pRg2, pSl, pNo, pPart, pWhile, fuelI, pIsi, pIsiT, tyN, isiOk, isiB, isiAny, pLc, pYes, lcL, wipeE, pMeth, qStm, qFld, qPut, qKeep, qRest, pEnum2, enumOf, enumD, sz_eq, pDPutT, dKeys, dKey, pBestD, pIsC, List.getElem?_cons_zero, List.getElem?_cons_succ, *])
local macro_rules | `(tactic| walk_at "dk") => `(tactic| simp (disch := first | assumption | omega) [-List.map_map, pSeq, pSet, pSetO, pWith, pBin, pV, pVo, pC, pCall, pCons, pNil, pTup, pLst, pUn, pIf, pIfS, pRet, pDrop, pAsg, pPar, pAug, pApp, pFrz, frzE, pB, pTr, pNot, pAnd, pOr, pAndV, pOrV, pNotV, pNotT, pChain, pNext, pFn, arity, pIter, pFor, pRg1, pRg2, pSl, pNo, pPart, pWhile, fuelI, pIsi, pIsiT, tyN, isiOk, isiB, isiAny,  qStm, qFld, qPut, qKeep, qRest, pEnum2, enumOf, enumD, sz_eq, pDPutT, dKeys, dKey, pBestD, pIsC, wipeE, List.getElem?_cons_zero, List.getElem?_cons_succ, *])
local macro_rules | `(tactic| walk_at "dm") => `(tactic| simp (disch := first | assumption | omega) [-List.map_map, pSeq, pSet, pSetO, pWith, pBin, pV, pVo, pC, pCall, pCons, pNil, pTup, pLst, pUn, pIf, pIfS, pRet, pDrop, pAsg, pPar, pAug, pApp, pFrz, frzE, pB, pTr, pNot, pAnd, pOr, pAndV, pOrV, pNotV, pNotT, pChain, pNext, pFn, arity, pIter, pFor, pRg1, pRg2, pSl, pNo, pPart, pWhile, fuelI, pIsi, pIsiT, tyN, isiOk, isiB, isiAny,  qStm, qFld, qPut, qKeep, qRest, pEnum2, enumOf, enumD, sz_eq, pDPutT, dKeys, dKey, pBestD, pIsC_eq, wipeE, pMeth_eq, List.getElem?_cons_zero, List.getElem?_cons_succ, *])
theorem count_is (x m : Int) (m0 : 0 ≤ m) : ∃ z : Int, 0 ≤ z ∧ z ≤ m ∧ f_law_count [.int x, .int m] = .ok (.int z) := by
  have md4 : fMod (.int x) (.int 4) = .ok (.int (x % 4)) := fMod_ok (by decide)
  have mm := fMod_ok (i := x) (show 0 < m + 1 by omega)
  have dv : fDiv (.int x) (.int 7) = .ok (.int (x / 7)) := fDiv_ok (by decide) (by decide)
  have mm2 := fMod_ok (i := x / 7) (show 0 < m + 1 by omega)
  have a0 := Int.emod_nonneg x (show m + 1 ≠ 0 by omega)
  have a1 := Int.emod_lt_of_pos x (show 0 < m + 1 by omega)
  have b0 := Int.emod_nonneg (x / 7) (show m + 1 ≠ 0 by omega)
  have b1 := Int.emod_lt_of_pos (x / 7) (show 0 < m + 1 by omega)
  have c : x % 4 = 0 ∨ x % 4 = 1 ∨ x % 4 = 2 ∨ x % 4 = 3 := by omega
  have ix : ∃ z : Int, 0 ≤ z ∧ z ≤ m ∧ fIx (.lst [.int 0, .int m, .int (x % (m + 1)), .int (x / 7 % (m + 1))]) (.int (x % 4)) = .ok (.int z) := by
    rcases c with c | c | c | c <;> rw [c]
    · exact ⟨0, by decide, m0, fIx_lst (by decide) rfl⟩
    · exact ⟨m, m0, Int.le_refl _, fIx_lst (by decide) rfl⟩
    · exact ⟨_, a0, by omega, fIx_lst (by decide) rfl⟩
    · exact ⟨_, b0, by omega, fIx_lst (by decide) rfl⟩
  obtain ⟨z, z0, z1, ix⟩ := ix
  refine ⟨z, z0, z1, ?_⟩
  unfold f_law_count runF p_law_count
  simp [pRet, pWith, pBin, pLst, pCons, pC, pV, pNil, pCall, md4, mm, dv, mm2, sz_eq, ix]
theorem parts_is {L : List Int} (hd : Dr L) (hl : 140 ≤ L.length) : ∃ (w h : Int) (ps : List Cl), 1 ≤ w ∧ w ≤ 10 ^ 30 ∧ 1 ≤ h ∧ h ≤ 10 ^ 30 ∧ ps.length ≤ 12 ∧ ps.Nodup ∧ (∀ p ∈ ps, inTab w h p = true) ∧ f_law_parts [.lst (dI L)] = .ok (.lst [.int w, .int h, .lst (ps.map cD)]) := by
  have e30 : (1000000000000000000000000000000 : Int) = 10 ^ 30 := by decide
  obtain ⟨w, w0, w1, ew⟩ := law_big_is hd 14 1 1000000000000000000000000000000 (by decide) (by omega) (by decide)
  obtain ⟨h, h0, h1, eh⟩ := law_big_is hd 26 1 1000000000000000000000000000000 (by decide) (by omega) (by decide)
  obtain ⟨x, _, _, e38⟩ := ixL (L := L) (i := 38) (by decide) (by omega) hd
  obtain ⟨c, c0, c1, ec⟩ := count_is x 12 (by decide)
  obtain ⟨ps, p1, p2, p3, ep⟩ := points_is hd 40 w h (by decide) (by omega) (by omega) c.toNat (by omega) (by omega)
  rw [show ((c.toNat : Nat) : Int) = c by omega] at ep
  refine ⟨w, h, ps, w0, by rw [← e30]; exact w1, h0, by rw [← e30]; exact h1, by omega, p2, p3, ?_⟩
  have s3 : (3 : Nat) ≤ 16777216 := by decide
  clear hd p1 p2 p3
  generalize D.lst (dI L) = N at *
  generalize D.lst (ps.map cD) = M at *
  unfold f_law_parts runF p_law_parts
  simp [pSeq, pSet, pWith, pFn, arity, pCons, pV, pC, pNil, pBin, ew, eh, pRet, pLst, e38, ec, ep, sz_eq]
end DL
end

section
set_option linter.all false
set_option maxRecDepth 100000
set_option maxHeartbeats 4000000
set_option exponentiation.threshold 2000
namespace DL
open PySem L2
local macro_rules | `(tactic| walk_at "dl") => `(tactic| simp (disch := first | assumption | omega) [-List.map_map, pSeq, pSet, pSetO, pWith, pBin, pV, pVo, pC, pCall, pCons, pNil, pTup, pLst, pUn, pIf, pIfS, pRet, pDrop, pAsg, pPar, pAug, pApp, pFrz, frzE, pB, pTr, pNot, pAnd, pOr, pAndV, pOrV, pNotV, pNotT, pChain, pNext, pFn, arity, pIter, pFor, pRg1, pRg2, pSl, pNo, pPart, pWhile, fuelI, pIsi, pIsiT, tyN, isiOk, isiB, isiAny, pLc, pYes, lcL, wipeE, pMeth, qStm, qFld, qPut, qKeep, qRest, pEnum2, enumOf, enumD, sz_eq, pDPutT, dKeys, dKey, pBestD, pIsC, List.getElem?_cons_zero, List.getElem?_cons_succ, *])
local macro_rules | `(tactic| walk_at "dk") => `(tactic| simp (disch := first | assumption | omega) [-List.map_map, pSeq, pSet, pSetO, pWith, pBin, pV, pVo, pC, pCall, pCons, pNil, pTup, pLst, pUn, pIf, pIfS, pRet, pDrop, pAsg, pPar, pAug, pApp, pFrz, frzE, pB, pTr, pNot, pAnd, pOr, pAndV, pOrV, pNotV, pNotT, pChain, pNext, pFn, arity, pIter, pFor, pRg1, pRg2, pSl, pNo, pPart, pWhile, fuelI, pIsi, pIsiT, tyN, isiOk, isiB, isiAny,  qStm, qFld, qPut, qKeep, qRest, pEnum2, enumOf, enumD, sz_eq, pDPutT, dKeys, dKey, pBestD, pIsC, wipeE, List.getElem?_cons_zero, List.getElem?_cons_succ, *])
local macro_rules | `(tactic| walk_at "dm") => `(tactic| simp (disch := first | assumption | omega) [-List.map_map, pSeq, pSet, pSetO, pWith, pBin, pV, pVo, pC, pCall, pCons, pNil, pTup, pLst, pUn, pIf, pIfS, pRet, pDrop, pAsg, pPar, pAug, pApp, pFrz, frzE, pB, pTr, pNot, pAnd, pOr, pAndV, pOrV, pNotV, pNotT, pChain, pNext, pFn, arity, pIter, pFor, pRg1, pRg2, pSl, pNo, pPart, pWhile, fuelI, pIsi, pIsiT, tyN, isiOk, isiB, isiAny,  qStm, qFld, qPut, qKeep, qRest, pEnum2, enumOf, enumD, sz_eq, pDPutT, dKeys, dKey, pBestD, pIsC_eq, wipeE, pMeth_eq, List.getElem?_cons_zero, List.getElem?_cons_succ, *])
theorem table_size (w h : Int) (pk : D) (hb : ¬ (1 ≤ w ∧ w ≤ 10 ^ 30) ∨ ¬ (1 ≤ h ∧ h ≤ 10 ^ 30)) : anyX f_Table_init [.int w, .int h, pk] = .err "InvalidTable" none := by
  apply anyX_eq
  intro x
  have mo : c_MOST = .int (10 ^ 30) := rfl
  have rq := require_is false
  have rq : f_require [.bl false] = .err "InvalidTable" none := rq
  have c1 := chain_le (a := 1) (b := w) (c := 10 ^ 30) (pa := pC (.int 1)) (pb := pV 1) (pc := pC c_MOST) (ρ := [.pin (.ref x), .dat (.int w), .dat (.int h), .dat pk, .unb, .unb]) rfl rfl rfl
  have c2 := chain_le (a := 1) (b := h) (c := 10 ^ 30) (pa := pC (.int 1)) (pb := pV 2) (pc := pC c_MOST) (ρ := [.pin (.ref x), .dat (.int w), .dat (.int h), .dat pk, .unb, .unb]) rfl rfl rfl
  unfold f_Table_init runI p_Table_init
  by_cases a : 1 ≤ w ∧ w ≤ 10 ^ 30
  · have b := hb.resolve_left (fun z => z a)
    rw [decide_eq_true a] at c1
    rw [decide_eq_false b] at c2
    simp [qStm, pDrop, pWith, pFn, arity, pCons, pAndV, c1, c2, pNil, rq]
  · rw [decide_eq_false a] at c1
    simp [qStm, pDrop, pWith, pFn, arity, pCons, pAndV, c1, pNil, rq]
end DL
end

section
set_option linter.all false
set_option maxRecDepth 100000
set_option maxHeartbeats 4000000
set_option exponentiation.threshold 2000
namespace DL
open PySem L2
local macro_rules | `(tactic| walk_at "dl") => `(tactic| simp (disch := first | assumption | omega) [-List.map_map, pSeq, pSet, pSetO, pWith, pBin, pV, pVo, pC, pCall, pCons, pNil, pTup, pLst, pUn, pIf, pIfS, pRet, pDrop, pAsg, pPar, pAug, pApp, pFrz, frzE, pB, pTr, pNot, pAnd, pOr, pAndV, pOrV, pNotV, pNotT, pChain, pNext, pFn, arity, pIter, pFor, pRg1, pRg2, pSl, pNo, pPart, pWhile, fuelI, pIsi, pIsiT, tyN, isiOk, isiB, isiAny, pLc, pYes, lcL, wipeE, pMeth, qStm, qFld, qPut, qKeep, qRest, pEnum2, enumOf, enumD, sz_eq, pDPutT, dKeys, dKey, pBestD, pIsC, List.getElem?_cons_zero, List.getElem?_cons_succ, *])
local macro_rules | `(tactic| walk_at "dk") => `(tactic| simp (disch := first | assumption | omega) [-List.map_map, pSeq, pSet, pSetO, pWith, pBin, pV, pVo, pC, pCall, pCons, pNil, pTup, pLst, pUn, pIf, pIfS, pRet, pDrop, pAsg, pPar, pAug, pApp, pFrz, frzE, pB, pTr, pNot, pAnd, pOr, pAndV, pOrV, pNotV, pNotT, pChain, pNext, pFn, arity, pIter, pFor, pRg1, pRg2, pSl, pNo, pPart, pWhile, fuelI, pIsi, pIsiT, tyN, isiOk, isiB, isiAny,  qStm, qFld, qPut, qKeep, qRest, pEnum2, enumOf, enumD, sz_eq, pDPutT, dKeys, dKey, pBestD, pIsC, wipeE, List.getElem?_cons_zero, List.getElem?_cons_succ, *])
local macro_rules | `(tactic| walk_at "dm") => `(tactic| simp (disch := first | assumption | omega) [-List.map_map, pSeq, pSet, pSetO, pWith, pBin, pV, pVo, pC, pCall, pCons, pNil, pTup, pLst, pUn, pIf, pIfS, pRet, pDrop, pAsg, pPar, pAug, pApp, pFrz, frzE, pB, pTr, pNot, pAnd, pOr, pAndV, pOrV, pNotV, pNotT, pChain, pNext, pFn, arity, pIter, pFor, pRg1, pRg2, pSl, pNo, pPart, pWhile, fuelI, pIsi, pIsiT, tyN, isiOk, isiB, isiAny,  qStm, qFld, qPut, qKeep, qRest, pEnum2, enumOf, enumD, sz_eq, pDPutT, dKeys, dKey, pBestD, pIsC_eq, wipeE, pMeth_eq, List.getElem?_cons_zero, List.getElem?_cons_succ, *])
theorem table_many (w h : Int) (ds : List D) (w0 : 1 ≤ w) (w1 : w ≤ 10 ^ 30) (h0 : 1 ≤ h) (h1 : h ≤ 10 ^ 30) (hm : 12 < ds.length) : anyX f_Table_init [.int w, .int h, .lst ds] = .err "InvalidTable" none := by
  apply anyX_eq
  intro x
  have rt : f_require [.bl true] = .ok .non := require_is true
  have rq : f_require [.bl false] = .err "InvalidTable" none := require_is false
  have c1 := chain_le (a := 1) (b := w) (c := 10 ^ 30) (pa := pC (.int 1)) (pb := pV 1) (pc := pC c_MOST) (ρ := [.pin (.ref x), .dat (.int w), .dat (.int h), .dat (.lst ds), .unb, .unb]) rfl rfl rfl
  have c2 := chain_le (a := 1) (b := h) (c := 10 ^ 30) (pa := pC (.int 1)) (pb := pV 2) (pc := pC c_MOST) (ρ := [.pin (.ref x), .dat (.int w), .dat (.int h), .dat (.lst ds), .unb, .unb]) rfl rfl rfl
  rw [decide_eq_true ⟨w0, w1⟩] at c1
  rw [decide_eq_true ⟨h0, h1⟩] at c2
  have fl : fLe (.int ds.length) c_MOST_POCKETS = .ok (.bl false) := by
    show fLe (.int ds.length) (.int 12) = _
    rw [fLe_int, decide_eq_false (show ¬ (ds.length : Int) ≤ 12 by omega)]
  have d4 : ¬ ("height" : Str) = "width" := by decide
  unfold f_Table_init runI p_Table_init
  simp [-fLe_int, qStm, qFld, qPut, qKeep, pDrop, pWith, pFn, arity, pCons, pAndV, c1, c2, pNil, rt, rq, pBin, pCall, pV, pC, fl, d4]
end DL
end

section
set_option linter.all false
set_option maxRecDepth 100000
set_option maxHeartbeats 4000000
set_option exponentiation.threshold 2000
namespace DL
open PySem L2
local macro_rules | `(tactic| walk_at "dm") => `(tactic| simp (disch := first | assumption | omega) [-List.map_map, pSeq, pSet, pSetO, pWith, pBin, pV, pVo, pC, pCall, pCons, pNil, pTup, pLst, pUn, pIf, pIfS, pRet, pDrop, pAsg, pPar, pAug, pApp, pFrz, frzE, pB, pTr, pNot, pAnd, pOr, pAndV, pOrV, pNotV, pNotT, pChain, pNext, pFn, arity, pIter, pFor, pRg1, pRg2, pSl, pNo, pPart, pWhile, fuelI, pIsi, pIsiT, tyN, isiOk, isiB, isiAny, qStm, qFld, qPut, qKeep, qRest, pEnum2, enumOf, enumD, sz_eq, pDPutT, dKeys, dKey, pBestD, pIsC_eq, wipeE, pMeth_eq, List.getElem?_cons_zero, List.getElem?_cons_succ, *])
/-! ## tables with a fault -/
theorem size_ok {w h : Int} (w0 : 1 ≤ w) (w1 : w ≤ 10 ^ 30) (h0 : 1 ≤ h) (h1 : h ≤ 10 ^ 30) (ρ : Ev) (e1 : pV 1 ρ = .ok (.int w)) (e2 : pV 2 ρ = .ok (.int h)) : pChain fLe fLe (pC (.int 1)) (pV 1) (pC c_MOST) ρ = .ok (.bl true) ∧ pChain fLe fLe (pC (.int 1)) (pV 2) (pC c_MOST) ρ = .ok (.bl true) := by
  have c1 := chain_le (a := 1) (b := w) (c := 10 ^ 30) (pa := pC (.int 1)) (pb := pV 1) (pc := pC c_MOST) (ρ := ρ) rfl e1 rfl
  have c2 := chain_le (a := 1) (b := h) (c := 10 ^ 30) (pa := pC (.int 1)) (pb := pV 2) (pc := pC c_MOST) (ρ := ρ) rfl e2 rfl
  rw [decide_eq_true ⟨w0, w1⟩] at c1
  rw [decide_eq_true ⟨h0, h1⟩] at c2
  exact ⟨c1, c2⟩
theorem table_arity (w h : Int) (xs : List (List D)) (w0 : 1 ≤ w) (w1 : w ≤ 10 ^ 30) (h0 : 1 ≤ h) (h1 : h ≤ 10 ^ 30) (hl : xs.length ≤ 12) (hb : ∃ es ∈ xs, es.length ≠ 2) : anyX f_Table_init [.int w, .int h, .lst (xs.map .tup)] = .err "InvalidTable" none := by
  apply anyX_eq
  intro x
  have rt : f_require [.bl true] = .ok .non := require_is true
  have rq : f_require [.bl false] = .err "InvalidTable" none := require_is false
  obtain ⟨c1, c2⟩ := size_ok w0 w1 h0 h1 [.pin (.ref x), .dat (.int w), .dat (.int h), .dat (.lst (xs.map .tup)), .unb, .unb] rfl rfl
  have fl : fLe (.int ((xs.map D.tup).length : Int)) c_MOST_POCKETS = .ok (.bl true) := by
    show fLe (.int _) (.int 12) = _
    rw [fLe_int, decide_eq_true (show ((xs.map D.tup).length : Int) ≤ 12 by rw [List.length_map]; omega)]
  have ln : fLen [.lst (xs.map .tup)] = .ok (.int ((xs.map D.tup).length : Int)) := rfl
  have lc0 := pLc_mapT (β := Bool) (ps := pIter (pV 3)) (g := gN 4) (pe := e_Table_init_0) (vs := [4]) (ρ := [.pin (.ref x), .dat (.int w), .dat (.int h), .dat (.lst (xs.map .tup)), .unb, .unb]) (xs := xs) .tup .bl (fun es => decide ((es.length : Int) = 2)) (by rfl) (le_sz (by omega)) (fun es _ => ⟨_, rfl, by
    unfold e_Table_init_0
    simp (disch := first | assumption | omega) [-List.map_map, pSeq, pSet, pSetO, pWith, pBin, pV, pVo, pC, pCall, pCons, pNil, pTup, pLst, pUn, pIf, pIfS, pRet, pDrop, pAsg, pPar, pAug, pApp, pFrz, frzE, pB, pTr, pNot, pAnd, pOr, pAndV, pOrV, pNotV, pNotT, pChain, pNext, pFn, arity, pIter, pFor, pRg1, pRg2, pSl, pNo, pPart, pWhile, fuelI, pIsi, pIsiT, tyN, isiOk, isiB, isiAny, qStm, qFld, qPut, qKeep, qRest, pEnum2, enumOf, enumD, sz_eq, pDPutT, dKeys, dKey, pBestD, pIsC_eq, wipeE, pMeth_eq, List.getElem?_cons_zero, List.getElem?_cons_succ, ]⟩)
  have al : fAll [.lst ((xs.map fun es => decide ((es.length : Int) = 2)).map .bl)] = .ok (.bl false) := by
    rw [fAll_lst]
    congr 2
    rw [List.all_eq_false]
    obtain ⟨es, he, hn⟩ := hb
    refine ⟨_, List.mem_map.mpr ⟨es, he, rfl⟩, ?_⟩
    simp; omega
  have d4 : ¬ ("height" : Str) = "width" := by decide
  generalize (xs.map fun es => decide ((es.length : Int) = 2)).map D.bl = BL at *
  generalize xs.map D.tup = XS at *
  unfold f_Table_init runI p_Table_init
  simp [-fLe_int, -fLen_lst, qStm, qFld, qPut, qKeep, pDrop, pWith, pFn, arity, pCons, pAndV, c1, c2, pNil, rt, rq, pBin, pCall, pV, pC, ln, fl, d4, lc0, al]
theorem tb_fault (w h : Int) (ps : List Cl) (d1 d2 d3 : EV) (hb : ¬ ((∀ p ∈ ps, inTab w h p = true) ∧ ps.Nodup)) (z4 z5 : EV) : ∃ ρ, r_Table_init_0 [.dat (tabP w h (.tup (ps.map cD))), d1, d2, d3, z4, z5] = .err "InvalidTable" none ρ := by
  have main : ∃ ρ, forL (gTp (gsCons (gN 5) (gsCons (gN 4) gsNil))) l_Table_init_0 (enumD 0 (ps.map cD)) [.dat (tabP w h (.tup (ps.map cD))), d1, d2, d3, z4, z5] = .err "InvalidTable" none ρ := by
    refine forL_gen (fun r => ∃ ρ, r = .err "InvalidTable" none ρ) (enumD 0 (ps.map cD)) (fun i ρ => (∃ y4 y5, ρ = [.dat (tabP w h (.tup (ps.map cD))), d1, d2, d3, y4, y5]) ∧ (∀ p ∈ ps.take i, inTab w h p = true) ∧ (ps.take i).Nodup) _ ⟨⟨z4, z5, rfl⟩, fun p hp => by simp at hp, by simp⟩ (fun i d ρ hd ⟨⟨y4, y5, hρ⟩, g1, g2⟩ => ?_) (fun ρ' ⟨_, g1, g2⟩ => ?_)
    · subst hρ
      obtain ⟨d', hd1, rfl⟩ := enumD_get hd
      rw [List.getElem?_map] at hd1
      obtain ⟨p, hp, rfl⟩ := Option.map_eq_some_iff.mp hd1
      rw [Int.zero_add]
      refine ⟨[.dat (tabP w h (.tup (ps.map cD))), d1, d2, d3, .dat (cD p), .dat (.int i)], rfl, ?_⟩
      have hil : i < ps.length := (List.getElem?_eq_some_iff.mp hp).1
      have cut : fSl (.tup (ps.map cD)) none (some (i : Int)) = .ok (.tup ((ps.take i).map cD)) := by
        rw [fSl_tup_take (by simpa using hil), List.map_take]
      have ni := in_pairs (neg := true) (p := p) (ps := ps.take i) (c := .tup ((ps.take i).map cD)) rfl (shp_cDs _)
      have m := tab_meth (w := w) (h := h) (pk := .tup (ps.map cD)) (m := "is_point") (f := arity 2 f_Table_is_point) (q := pCons (pV 4) pNil) (p := pV 0) (ρ := [.dat (tabP w h (.tup (ps.map cD))), d1, d2, d3, .dat (cD p), .dat (.int i)]) rfl (by decide)
      have m2 : pMeth "Table" "is_point" (arity 2 f_Table_is_point) (pV 0) (pCons (pV 4) pNil) [.dat (tabP w h (.tup (ps.map cD))), d1, d2, d3, .dat (cD p), .dat (.int i)] = .ok (.bl (inTab w h p)) := by
        rw [m, ← is_point_is w h (.tup (ps.map cD)) p]; rfl
      have rt : f_require [.bl true] = .ok .non := require_is true
      have rq : f_require [.bl false] = .err "InvalidTable" none := require_is false
      have tp := @tab_p w h (.tup (ps.map cD))
      have tk : ps.take (i + 1) = ps.take i ++ [p] := by rw [List.take_add_one, hp]; rfl
      cases a : inTab w h p with
      | false =>
        rw [a] at m2
        refine .inr (.inr (.inr ⟨"InvalidTable", none, [.dat (tabP w h (.tup (ps.map cD))), d1, d2, d3, .dat (cD p), .dat (.int i)], ?_, _, rfl⟩))
        clear hb g1 g2 tk cut ni
        generalize tabP w h (.tup (ps.map cD)) = T at *
        unfold l_Table_init_0
        simp [pDrop, pWith, pFn, pCons, pAndV, m2, pNil, arity, rq]
      | true =>
        rw [a] at m2
        by_cases q : p ∈ ps.take i
        · rw [decide_eq_true q] at ni
          have ni : fIn2 true (cD p) (.tup ((ps.take i).map cD)) = .ok (.bl false) := ni
          refine .inr (.inr (.inr ⟨"InvalidTable", none, [.dat (tabP w h (.tup (ps.map cD))), d1, d2, d3, .dat (cD p), .dat (.int i)], ?_, _, rfl⟩))
          clear hb g1 g2 tk
          generalize tabP w h (.tup (ps.map cD)) = T at *
          generalize (ps.take i).map cD = M at *
          unfold l_Table_init_0
          simp [pDrop, pWith, pFn, pCons, pAndV, m2, pBin, pV, pSl, pUn, tp, pNo, pPart, cut, ni, pNil, arity, rq]
        · rw [decide_eq_false q] at ni
          have ni : fIn2 true (cD p) (.tup ((ps.take i).map cD)) = .ok (.bl true) := ni
          refine .inl ⟨[.dat (tabP w h (.tup (ps.map cD))), d1, d2, d3, .dat (cD p), .dat (.int i)], .inl ?_, ⟨_, _, rfl⟩, ?_, ?_⟩
          · clear hb g1 g2 tk
            generalize tabP w h (.tup (ps.map cD)) = T at *
            generalize (ps.take i).map cD = M at *
            unfold l_Table_init_0
            simp [pDrop, pWith, pFn, pCons, pAndV, m2, pBin, pV, pSl, pUn, tp, pNo, pPart, cut, ni, pNil, arity, rt]
          · rw [tk]
            intro z hz
            rcases List.mem_append.mp hz with hz | hz
            · exact g1 z hz
            · rw [List.mem_singleton.mp hz]; exact a
          · rw [tk, List.nodup_append]
            exact ⟨g2, by simp, fun x hx y hy => by rw [List.mem_singleton.mp hy]; exact fun e => q (e ▸ hx)⟩
    · have el : (enumD 0 (ps.map cD)).length = ps.length := by
        have : ∀ (l : List D) (k : Int), (enumD k l).length = l.length := fun l => by
          induction l with
          | nil => intro k; rfl
          | cons d l ih => intro k; show (enumD (k + 1) l).length + 1 = _; rw [ih]; rfl
        rw [this, List.length_map]
      rw [el, List.take_length] at g1 g2
      exact absurd ⟨g1, g2⟩ hb
  obtain ⟨ρ, e⟩ := main
  refine ⟨ρ, ?_⟩
  unfold r_Table_init_0
  have en : pEnum2 (pCons (pUn (fFld "Table" "pockets") (pV 0)) pNil) [.dat (tabP w h (.tup (ps.map cD))), d1, d2, d3, z4, z5] = .ok (enumD 0 (ps.map cD)) := rfl
  simp only [pFor, pWith, en, e]
theorem table_fault (w h : Int) (ps : List Cl) (w0 : 1 ≤ w) (w1 : w ≤ 10 ^ 30) (h0 : 1 ≤ h) (h1 : h ≤ 10 ^ 30) (hb : 12 < ps.length ∨ ¬ ((∀ p ∈ ps, inTab w h p = true) ∧ ps.Nodup)) : anyX f_Table_init [.int w, .int h, .lst (ps.map cD)] = .err "InvalidTable" none := by
  by_cases hl : 12 < ps.length
  · exact table_many w h _ w0 w1 h0 h1 (by rw [List.length_map]; exact hl)
  have hb := hb.resolve_left hl
  apply anyX_eq
  intro x
  have rt : f_require [.bl true] = .ok .non := require_is true
  have d1 : ¬ ("width" : Str) = "height" := by decide
  have d2 : ¬ ("width" : Str) = "pockets" := by decide
  have d3 : ¬ ("height" : Str) = "pockets" := by decide
  have d4 : ¬ ("height" : Str) = "width" := by decide
  have d5 : ¬ ("pockets" : Str) = "height" := by decide
  have d6 : ¬ ("pockets" : Str) = "width" := by decide
  obtain ⟨c1, c2⟩ := size_ok w0 w1 h0 h1 [.pin (.ref x), .dat (.int w), .dat (.int h), .dat (.lst (ps.map cD)), .unb, .unb] rfl rfl
  have fl : fLe (.int ((ps.map cD).length : Int)) c_MOST_POCKETS = .ok (.bl true) := by
    show fLe (.int _) (.int 12) = _
    rw [fLe_int, decide_eq_true (show ((ps.map cD).length : Int) ≤ 12 by rw [List.length_map]; omega)]
  have ln : fLen [.lst (ps.map cD)] = .ok (.int ((ps.map cD).length : Int)) := rfl
  have lc0 := pLc_mapT (β := Bool) (ps := pIter (pV 3)) (g := gN 4) (pe := e_Table_init_0) (vs := [4]) (ρ := [.pin (.ref x), .dat (.int w), .dat (.int h), .dat (.lst (ps.map cD)), .unb, .unb]) (xs := ps) cD .bl (fun _ => true) (by rfl) (le_sz (by omega)) (fun a _ => ⟨_, rfl, rfl⟩)
  have lc1 := pLc_map (ps := pIter (pV 3)) (g := gN 4) (pe := e_Table_init_1) (vs := [4]) (ρ := [.pin (.ref x), .dat (.int w), .dat (.int h), .dat (.lst (ps.map cD)), .unb, .unb]) (ds := ps.map cD) id (by rfl) (le_sz (by simp; omega)) (fun a ha => by
    obtain ⟨c, _, rfl⟩ := List.mem_map.mp ha
    exact ⟨_, rfl, rfl⟩)
  rw [List.map_id] at lc1
  have al : fAll [.lst ((ps.map fun _ => true).map .bl)] = .ok (.bl true) := by rw [fAll_lst]; simp
  obtain ⟨ρ, r⟩ := tb_fault w h ps (.dat (.int w)) (.dat (.int h)) (.dat (.lst (ps.map cD))) hb .unb .unb
  have fin : D.ins "Table" ["width", "height", "pockets"] [.int w, .int h, .tup (ps.map cD)] = tabP w h (.tup (ps.map cD)) := rfl
  clear hb
  generalize (ps.map fun _ => true).map D.bl = BL at *
  generalize tabP w h (.tup (ps.map cD)) = TT at *
  generalize ps.map cD = PS at *
  unfold f_Table_init runI p_Table_init
  simp [-fLe_int, -fLen_lst, qStm, qFld, qPut, qKeep, qRest, pDrop, pWith, pFn, arity, pCons, pAndV, c1, c2, pNil, rt, pBin, pCall, pV, pC, ln, fl, d1, d2, d3, d4, d5, d6, lc0, lc1, al, fin, r]
end DL
end

section
set_option linter.all false
set_option maxRecDepth 100000
set_option maxHeartbeats 4000000
set_option exponentiation.threshold 2000
namespace DL
open PySem L2
local macro_rules | `(tactic| walk_at "dm") => `(tactic| simp (disch := first | assumption | omega) [-List.map_map, pSeq, pSet, pSetO, pWith, pBin, pV, pVo, pC, pCall, pCons, pNil, pTup, pLst, pUn, pIf, pIfS, pRet, pDrop, pAsg, pPar, pAug, pApp, pFrz, frzE, pB, pTr, pNot, pAnd, pOr, pAndV, pOrV, pNotV, pNotT, pChain, pNext, pFn, arity, pIter, pFor, pRg1, pRg2, pSl, pNo, pPart, pWhile, fuelI, pIsi, pIsiT, tyN, isiOk, isiB, isiAny, qStm, qFld, qPut, qKeep, qRest, pEnum2, enumOf, enumD, sz_eq, pDPutT, dKeys, dKey, pBestD, pIsC_eq, wipeE, pMeth_eq, List.getElem?_cons_zero, List.getElem?_cons_succ, *])
/-! ## strings by their signs -/
def stL (l : List Nat) : Str := ⟨l.toArray⟩
theorem stL_size (l : List Nat) : (stL l).cps.size = l.length := by simp [stL]
theorem stL_app (a b : List Nat) : stL a ++ stL b = stL (a ++ b) := by
  show (⟨(stL a).cps ++ (stL b).cps⟩ : Str) = _
  simp [stL]
theorem sadd {a b : List Nat} (h : a.length + b.length ≤ 100) : fAdd (.str (stL a)) (.str (stL b)) = .ok (.str (stL (a ++ b))) := by
  rw [← stL_app]
  show (if (stL a).length + (stL b).length ≤ sizeLine then Rs.ok (D.str (stL a ++ stL b)) else .no) = _
  rw [if_pos (by rw [sizeLine_eq]; show (stL a).cps.size + (stL b).cps.size ≤ _; rw [stL_size, stL_size]; omega)]
theorem slen {a : List Nat} (h : a.length ≤ 100) : fLen [.str (stL a)] = .ok (.int (a.length : Int)) := by
  show (if (stL a).length ≤ sizeLine then Rs.ok (D.int (stL a).length) else .no) = _
  have e : (stL a).length = a.length := stL_size a
  rw [e, if_pos (by rw [sizeLine_eq]; omega)]
theorem sidx {a : List Nat} {i : Nat} {c : Nat} (h : a.length ≤ 100) (hc : a[i]? = some c) : fIx (.str (stL a)) (.int (i : Int)) = .ok (.str (stL [c])) := by
  have e : (stL a).length = a.length := stL_size a
  have hl : i < a.length := (List.getElem?_eq_some_iff.mp hc).1
  have at_ : atI (stL a).cps.toList (i : Int) = some c := by
    unfold atI
    have : (stL a).cps.toList = a := by simp [stL]
    rw [this, ixN_nat hl]; exact hc
  show (if (stL a).length ≤ sizeLine then (match atI (stL a).cps.toList (i : Int) with | some c => Rs.ok (D.str ⟨#[c]⟩) | none => .no) else .no) = _
  rw [e, if_pos (by rw [sizeLine_eq]; omega), at_]; rfl
theorem scut_take {a : List Nat} {k : Nat} (h : a.length ≤ 100) : fSl (.str (stL a)) none (some (k : Int)) = .ok (.str (stL (a.take k))) := by
  have e : (stL a).length = a.length := stL_size a
  show (if (stL a).length ≤ sizeLine then Rs.ok (D.str (cutS (stL a) none (some (k : Int)))) else .no) = _
  rw [e, if_pos (by rw [sizeLine_eq]; omega)]
  congr 2
  unfold cutS
  rw [HT.sIx_nat, HT.sIx_none, e]
  show (⟨_⟩ : Str) = ⟨_⟩
  congr 1
  simp [stL]
theorem scut_drop {a : List Nat} {k : Nat} (h : a.length ≤ 100) : fSl (.str (stL a)) (some (k : Int)) none = .ok (.str (stL (a.drop k))) := by
  have e : (stL a).length = a.length := stL_size a
  show (if (stL a).length ≤ sizeLine then Rs.ok (D.str (cutS (stL a) (some (k : Int)) none)) else .no) = _
  rw [e, if_pos (by rw [sizeLine_eq]; omega)]
  congr 2
  unfold cutS
  rw [HT.sIx_nat, HT.sIx_none, e]
  show (⟨_⟩ : Str) = ⟨_⟩
  congr 1
  simp [stL]
  by_cases q : k ≤ a.length
  · rw [Nat.min_eq_left q, List.take_of_length_le (by rw [List.length_drop]; omega)]
  · rw [Nat.min_eq_right (by omega), List.drop_of_length_le (by omega), List.drop_of_length_le (by omega)]; simp
/-! ## the drawn names -/
def chL : List Nat := ("abcdefghijklmnopqrstuvwxyz0123456789" : Str).cps.toList
theorem ch_eq : ("abcdefghijklmnopqrstuvwxyz0123456789" : Str) = stL chL := by
  unfold stL chL; simp
theorem ch_len : chL.length = 36 := by decide +kernel
theorem ch_good : ∀ k : Nat, k < 36 → goodC (chL.getD k 0) = true := by decide +kernel
theorem ch_nd : ∀ k : Nat, k < 26 → strIn ⟨#[chL.getD k 0]⟩ "0123456789" = false := by decide +kernel
theorem ch_lt : ∀ k : Nat, k < 36 → chL.getD k 0 < 1114112 := by decide +kernel
theorem ch_inj : ∀ i : Nat, i < 36 → ∀ j : Nat, j < 36 → chL.getD i 0 = chL.getD j 0 → i = j := by decide +kernel
def chA (i : Int) : Nat := chL.getD i.toNat 0
theorem ch_ix {i : Int} (h0 : 0 ≤ i) (h1 : i < 36) : fIx (.str "abcdefghijklmnopqrstuvwxyz0123456789") (.int i) = .ok (.str (stL [chA i])) := by
  have hl : i.toNat < chL.length := by rw [ch_len]; omega
  have := sidx (a := chL) (i := i.toNat) (c := chA i) (by rw [ch_len]; decide) (by
    unfold chA
    rw [List.getD_eq_getElem?_getD, List.getElem?_eq_getElem hl]; rfl)
  rw [show ((i.toNat : Nat) : Int) = i by omega] at this
  rw [ch_eq]; exact this
def nmL (c : Nat) (pre post : List Nat) (z k : Int) : Str := stL (c :: (pre ++ chA ((z + 5 * k) % 36) :: post))
structure NmOk (c : Nat) (pre post : List Nat) : Prop where
  nd : strIn ⟨#[c]⟩ "0123456789" = false
  gc : goodC c = true
  g1 : pre.all goodC = true
  g2 : post.all goodC = true
  ln : pre.length + post.length ≤ 10
  sm : ∀ x ∈ c :: (pre ++ post), x < 1114112
theorem nm_name {c : Nat} {pre post : List Nat} (h : NmOk c pre post) (z k : Int) : nameM (nmL c pre post z k) = true := by
  have r0 := Int.emod_nonneg (z + 5 * k) (show (36 : Int) ≠ 0 by decide)
  have r1 := Int.emod_lt_of_pos (z + 5 * k) (show (0 : Int) < 36 by decide)
  have g : goodC (chA ((z + 5 * k) % 36)) = true := ch_good _ (by omega)
  have sz : (nmL c pre post z k).cps.size = pre.length + post.length + 2 := by
    unfold nmL; rw [stL_size]; simp; omega
  have fs : firstS (nmL c pre post z k) = ⟨#[c]⟩ := by
    unfold firstS nmL stL; simp
  have al : (nmL c pre post z k).cps.toList.all goodC = true := by
    unfold nmL stL
    simp only [List.toList_toArray, List.all_cons, List.all_append, h.gc, h.g1, h.g2, g]; rfl
  have ln := h.ln
  unfold nameM
  rw [sz, fs, al, h.nd, decide_eq_true (by omega)]; rfl
theorem nmL_strOk {c : Nat} {pre post : List Nat} (h : NmOk c pre post) (z k : Int) : PyData.strOk (nmL c pre post z k) = true := by
  have r0 := Int.emod_nonneg (z + 5 * k) (show (36 : Int) ≠ 0 by decide)
  have r1 := Int.emod_lt_of_pos (z + 5 * k) (show (0 : Int) < 36 by decide)
  have g : chA ((z + 5 * k) % 36) < 1114112 := ch_lt _ (by omega)
  unfold PyData.strOk nmL stL
  rw [← Array.all_toList, List.all_eq_true]
  intro x hx
  refine decide_eq_true ?_
  show x < 1114112
  simp only [List.mem_cons, List.mem_append] at hx
  have sm := h.sm
  rcases hx with rfl | hx | rfl | hx
  · exact sm _ List.mem_cons_self
  · exact sm _ (List.mem_cons_of_mem _ (List.mem_append_left _ hx))
  · exact g
  · exact sm _ (List.mem_cons_of_mem _ (List.mem_append_right _ hx))
theorem nm_inj {c : Nat} {pre post : List Nat} {z k j : Int} (k0 : 0 ≤ k) (k1 : k < 36) (j0 : 0 ≤ j) (j1 : j < 36) (e : nmL c pre post z k = nmL c pre post z j) : k = j := by
  have r0 := Int.emod_nonneg (z + 5 * k) (show (36 : Int) ≠ 0 by decide)
  have r1 := Int.emod_lt_of_pos (z + 5 * k) (show (0 : Int) < 36 by decide)
  have r2 := Int.emod_nonneg (z + 5 * j) (show (36 : Int) ≠ 0 by decide)
  have r3 := Int.emod_lt_of_pos (z + 5 * j) (show (0 : Int) < 36 by decide)
  unfold nmL stL at e
  have e := congrArg (fun s : Str => s.cps.toList) e
  simp only [List.toList_toArray] at e
  have e := (List.cons.inj e).2
  have e := List.append_cancel_left e
  have e := (List.cons.inj e).1
  have := ch_inj _ (by omega) _ (by omega) e
  omega
theorem law_name_is {L : List Int} (hd : Dr L) (a : Int) (a0 : 0 ≤ a) (hl : a + 6 ≤ L.length) : ∃ (c : Nat) (pre post : List Nat) (z : Int), NmOk c pre post ∧ ∀ k : Int, 0 ≤ k → k ≤ 1000 → f_law_name [.lst (dI L), .int a, .int k] = .ok (.str (nmL c pre post z k)) := by
  obtain ⟨z0, _, _, e0⟩ := ixL (L := L) (i := a) a0 (by omega) hd
  obtain ⟨z1, _, _, e1⟩ := ixL (L := L) (i := a + 1) (by omega) (by omega) hd
  obtain ⟨z2, _, _, e2⟩ := ixL (L := L) (i := a + 2) (by omega) (by omega) hd
  obtain ⟨z3, y3, x3, e3⟩ := ixL (L := L) (i := a + 3) (by omega) (by omega) hd
  obtain ⟨z4, _, _, e4⟩ := ixL (L := L) (i := a + 4) (by omega) (by omega) hd
  obtain ⟨z5, y5, x5, e5⟩ := ixL (L := L) (i := a + 5) (by omega) (by omega) hd
  have i0 := ch_ix (i := z0 % 26) (by omega) (by omega)
  have rg : rgOk (z1 % 11) = true := rgOk_of (by omega) (by omega)
  have lp : ∀ (k : Int) (m : Nat), m ≤ 10 → ∃ y : EV, forL (gN 5) l_law_name_0 (rgD 0 m) [.dat (.lst (dI L)), .dat (.int a), .dat (.int k), .dat (.str "abcdefghijklmnopqrstuvwxyz0123456789"), .dat (.str (stL [chA (z0 % 26)])), .unb, .unb] = .nx [.dat (.lst (dI L)), .dat (.int a), .dat (.int k), .dat (.str "abcdefghijklmnopqrstuvwxyz0123456789"), .dat (.str (stL (chA (z0 % 26) :: (List.range m).map fun (j : Nat) => chA ((z2 + (j : Int) * z3) % 36)))), y, .unb] := by
    intro k m hm
    obtain ⟨ρ', f1, y, f2⟩ := forL_inv (g := gN 5) (body := l_law_name_0) (ds := rgD 0 m) (ρ := [.dat (.lst (dI L)), .dat (.int a), .dat (.int k), .dat (.str "abcdefghijklmnopqrstuvwxyz0123456789"), .dat (.str (stL [chA (z0 % 26)])), .unb, .unb])
      (fun i ρ => ∃ y : EV, ρ = [.dat (.lst (dI L)), .dat (.int a), .dat (.int k), .dat (.str "abcdefghijklmnopqrstuvwxyz0123456789"), .dat (.str (stL (chA (z0 % 26) :: (List.range i).map fun (j : Nat) => chA ((z2 + (j : Int) * z3) % 36)))), y, .unb])
      ⟨.unb, rfl⟩ (fun i d ρ hd' ⟨y, hρ⟩ => by
        subst hρ
        obtain ⟨rfl, hi⟩ := rgD_at hd'
        rw [Int.zero_add]
        have ml : fMul (.int (i : Int)) (.int z3) = .ok (.int ((i : Int) * z3)) := fMul_l (by omega)
        have md : fMod (.int (z2 + (i : Int) * z3)) (.int 36) = .ok (.int ((z2 + (i : Int) * z3) % 36)) := fMod_ok (by decide)
        have ix := ch_ix (i := (z2 + (i : Int) * z3) % 36) (Int.emod_nonneg _ (by decide)) (Int.emod_lt_of_pos _ (by decide))
        have ad := sadd (a := chA (z0 % 26) :: (List.range i).map fun (j : Nat) => chA ((z2 + (j : Int) * z3) % 36)) (b := [chA ((z2 + (i : Int) * z3) % 36)]) (by simp; omega)
        have es : (chA (z0 % 26) :: (List.range (i + 1)).map fun (j : Nat) => chA ((z2 + (j : Int) * z3) % 36)) = (chA (z0 % 26) :: (List.range i).map fun (j : Nat) => chA ((z2 + (j : Int) * z3) % 36)) ++ [chA ((z2 + (i : Int) * z3) % 36)] := by
          rw [List.range_succ, List.map_append]; rfl
        refine ⟨_, [.dat (.lst (dI L)), .dat (.int a), .dat (.int k), .dat (.str "abcdefghijklmnopqrstuvwxyz0123456789"), .dat (.str (stL (chA (z0 % 26) :: (List.range (i + 1)).map fun (j : Nat) => chA ((z2 + (j : Int) * z3) % 36)))), .dat (.int (i : Int)), .unb], rfl, .inl ?_, .dat (.int (i : Int)), rfl⟩
        rw [es]
        generalize (chA (z0 % 26) :: (List.range i).map fun (j : Nat) => chA ((z2 + (j : Int) * z3) % 36)) ++ [chA ((z2 + (i : Int) * z3) % 36)] = l2 at *
        generalize (chA (z0 % 26) :: (List.range i).map fun (j : Nat) => chA ((z2 + (j : Int) * z3) % 36)) = l1 at *
        generalize D.lst (dI L) = N at *
        generalize D.str "abcdefghijklmnopqrstuvwxyz0123456789" = CH at *
        unfold l_law_name_0
        simp (disch := first | assumption | omega) [-List.map_map, -fLen_lst, -tru_lst, pSeq, pSet, pSetO, pWith, pBin, pV, pVo, pC, pCall, pCons, pNil, pTup, pLst, pUn, pIf, pIfS, pRet, pDrop, pAsg, pPar, pAug, pApp, pFrz, frzE, pB, pTr, pNot, pAnd, pOr, pAndV, pOrV, pNotV, pNotT, pChain, pNext, pFn, arity, pIter, pFor, pRg1, pRg2, pSl, pNo, pPart, pWhile, fuelI, pIsi, pIsiT, tyN, isiOk, isiB, isiAny, qStm, qFld, qPut, qKeep, qRest, pEnum2, enumOf, enumD, sz_eq, pDPutT, dKeys, dKey, pBestD, pIsC_eq, wipeE, pMeth_eq, List.getElem?_cons_zero, List.getElem?_cons_succ, e2, e3, ml, md, ix, ad])
    rw [rgD_len] at f2
    subst f2
    exact ⟨y, f1⟩
  obtain ⟨l, hl2⟩ : ∃ l, l = (List.range (z1 % 11).toNat).map fun (j : Nat) => chA ((z2 + (j : Int) * z3) % 36) := ⟨_, rfl⟩
  have ll : l.length ≤ 10 := by rw [hl2, List.length_map, List.length_range]; omega
  have lg : l.all goodC = true := by
    rw [hl2, List.all_map, List.all_eq_true]
    intro j _
    exact ch_good _ (by have := Int.emod_nonneg (z2 + (j : Int) * z3) (show (36 : Int) ≠ 0 by decide); have := Int.emod_lt_of_pos (z2 + (j : Int) * z3) (show (0 : Int) < 36 by decide); omega)
  obtain ⟨p, hp⟩ : ∃ p : Nat, z4 % ((l.length : Int) + 1) = p := ⟨(z4 % ((l.length : Int) + 1)).toNat, by have := Int.emod_nonneg z4 (show (l.length : Int) + 1 ≠ 0 by omega); omega⟩
  refine ⟨chA (z0 % 26), l.take p, l.drop p, z5, ⟨ch_nd _ (by omega), ch_good _ (by omega), ?_, ?_, ?_, ?_⟩, fun k k0 k1 => ?_⟩
  · rw [List.all_eq_true] at lg ⊢; exact fun x hx => lg x (List.mem_of_mem_take hx)
  · rw [List.all_eq_true] at lg ⊢; exact fun x hx => lg x (List.mem_of_mem_drop hx)
  · rw [List.length_take, List.length_drop]; omega
  · intro x hx
    rw [List.take_append_drop] at hx
    rcases List.mem_cons.mp hx with rfl | hx
    · exact ch_lt _ (by omega)
    · rw [hl2] at hx
      obtain ⟨j, _, rfl⟩ := List.mem_map.mp hx
      exact ch_lt _ (by have := Int.emod_nonneg (z2 + (j : Int) * z3) (show (36 : Int) ≠ 0 by decide); have := Int.emod_lt_of_pos (z2 + (j : Int) * z3) (show (0 : Int) < 36 by decide); omega)
  · obtain ⟨y, e⟩ := lp k (z1 % 11).toNat (by omega)
    rw [← hl2] at e
    have ln := slen (a := chA (z0 % 26) :: l) (by simp; omega)
    rw [show (((chA (z0 % 26) :: l).length : Nat) : Int) = (l.length : Int) + 1 by simp] at ln
    have md : fMod (.int z4) (.int ((l.length : Int) + 1)) = .ok (.int (p : Int)) := by rw [← hp]; exact fMod_ok (by omega)
    have t1 := scut_take (a := chA (z0 % 26) :: l) (k := p + 1) (by simp; omega)
    have t2 := scut_drop (a := chA (z0 % 26) :: l) (k := p + 1) (by simp; omega)
    rw [show (((p + 1 : Nat)) : Int) = 1 + (p : Int) by omega] at t1 t2
    rw [List.take_succ_cons] at t1
    rw [List.drop_succ_cons] at t2
    have ml : fMul (.int 5) (.int k) = .ok (.int (5 * k)) := fMul_l (by decide)
    have md5 : fMod (.int (z5 + 5 * k)) (.int 36) = .ok (.int ((z5 + 5 * k) % 36)) := fMod_ok (by decide)
    have ix := ch_ix (i := (z5 + 5 * k) % 36) (Int.emod_nonneg _ (by decide)) (Int.emod_lt_of_pos _ (by decide))
    have lt : (l.take p).length ≤ 10 := by rw [List.length_take]; omega
    have ld : (l.drop p).length ≤ 10 := by rw [List.length_drop]; omega
    have a1 := sadd (a := chA (z0 % 26) :: l.take p) (b := [chA ((z5 + 5 * k) % 36)]) (by simp only [List.length_cons, List.length_nil]; omega)
    have a2 := sadd (a := (chA (z0 % 26) :: l.take p) ++ [chA ((z5 + 5 * k) % 36)]) (b := l.drop p) (by simp only [List.length_append, List.length_cons, List.length_nil]; omega)
    have fin : ((chA (z0 % 26) :: l.take p) ++ [chA ((z5 + 5 * k) % 36)]) ++ l.drop p = chA (z0 % 26) :: (l.take p ++ chA ((z5 + 5 * k) % 36) :: l.drop p) := by simp
    unfold nmL
    rw [← fin]
    clear fin lt ld lg hl2 lp
    generalize ((chA (z0 % 26) :: l.take p) ++ [chA ((z5 + 5 * k) % 36)]) ++ l.drop p = l3 at *
    generalize (chA (z0 % 26) :: l.take p) ++ [chA ((z5 + 5 * k) % 36)] = l2 at *
    generalize chA (z0 % 26) :: l.take p = l1 at *
    generalize l.drop p = l4 at *
    generalize chA (z0 % 26) :: l = l0 at *
    generalize D.lst (dI L) = N at *
    unfold f_law_name runF p_law_name
    simp (disch := first | assumption | omega) [-List.map_map, -fLen_lst, -tru_lst, pSeq, pSet, pSetO, pWith, pBin, pV, pVo, pC, pCall, pCons, pNil, pTup, pLst, pUn, pIf, pIfS, pRet, pDrop, pAsg, pPar, pAug, pApp, pFrz, frzE, pB, pTr, pNot, pAnd, pOr, pAndV, pOrV, pNotV, pNotT, pChain, pNext, pFn, arity, pIter, pFor, pRg1, pRg2, pSl, pNo, pPart, pWhile, fuelI, pIsi, pIsiT, tyN, isiOk, isiB, isiAny, qStm, qFld, qPut, qKeep, qRest, pEnum2, enumOf, enumD, sz_eq, pDPutT, dKeys, dKey, pBestD, pIsC_eq, wipeE, pMeth_eq, List.getElem?_cons_zero, List.getElem?_cons_succ, e0, i0, e1, rg, e, e4, ln, md, t1, e5, ml, md5, ix, t2, a1, a2]
end DL
end

section
set_option linter.all false
set_option maxRecDepth 100000
set_option maxHeartbeats 4000000
set_option exponentiation.threshold 2000
namespace DL
open PySem L2
local macro_rules | `(tactic| walk_at "dm") => `(tactic| simp (disch := first | assumption | omega) [-List.map_map, pSeq, pSet, pSetO, pWith, pBin, pV, pVo, pC, pCall, pCons, pNil, pTup, pLst, pUn, pIf, pIfS, pRet, pDrop, pAsg, pPar, pAug, pApp, pFrz, frzE, pB, pTr, pNot, pAnd, pOr, pAndV, pOrV, pNotV, pNotT, pChain, pNext, pFn, arity, pIter, pFor, pRg1, pRg2, pSl, pNo, pPart, pWhile, fuelI, pIsi, pIsiT, tyN, isiOk, isiB, isiAny, qStm, qFld, qPut, qKeep, qRest, pEnum2, enumOf, enumD, sz_eq, pDPutT, dKeys, dKey, pBestD, pIsC_eq, wipeE, pMeth_eq, List.getElem?_cons_zero, List.getElem?_cons_succ, *])
/-! ## the drawn balls of k00-k08 -/
theorem fAdd_tups {x y : List D} (hx : x ≠ []) (h : x.length + y.length ≤ 16777216) : fAdd (.tup x) (.tup y) = .ok (.tup (x ++ y)) := by
  have e : x.isEmpty = false := by cases x with | nil => exact absurd rfl hx | cons _ _ => rfl
  show (if !x.isEmpty && decide (x.length + y.length ≤ sizeLine) then Rs.ok (D.tup (x ++ y)) else .no) = _
  rw [e, sz_eq, decide_eq_true h]; rfl
theorem dir8 (z : Int) : ∃ dx dy : Int, (dx = -1 ∨ dx = 0 ∨ dx = 1) ∧ (dy = -1 ∨ dy = 0 ∨ dy = 1) ∧ ¬ (dx = 0 ∧ dy = 0) ∧ fIx (.lst [.tup [.int 1, .int 0], .tup [.int 0, .int 1], .tup [.int (-1), .int 0], .tup [.int 0, .int (-1)], .tup [.int 1, .int 1], .tup [.int (-1), .int 1], .tup [.int 1, .int (-1)], .tup [.int (-1), .int (-1)]]) (.int (z % 8)) = .ok (.tup [.int dx, .int dy]) := by
  rcases (show z % 8 = 0 ∨ z % 8 = 1 ∨ z % 8 = 2 ∨ z % 8 = 3 ∨ z % 8 = 4 ∨ z % 8 = 5 ∨ z % 8 = 6 ∨ z % 8 = 7 by omega) with q | q | q | q | q | q | q | q <;> rw [q]
  · exact ⟨1, 0, by decide, by decide, by decide, fIx_lst (by decide) rfl⟩
  · exact ⟨0, 1, by decide, by decide, by decide, fIx_lst (by decide) rfl⟩
  · exact ⟨-1, 0, by decide, by decide, by decide, fIx_lst (by decide) rfl⟩
  · exact ⟨0, -1, by decide, by decide, by decide, fIx_lst (by decide) rfl⟩
  · exact ⟨1, 1, by decide, by decide, by decide, fIx_lst (by decide) rfl⟩
  · exact ⟨-1, 1, by decide, by decide, by decide, fIx_lst (by decide) rfl⟩
  · exact ⟨1, -1, by decide, by decide, by decide, fIx_lst (by decide) rfl⟩
  · exact ⟨-1, -1, by decide, by decide, by decide, fIx_lst (by decide) rfl⟩
theorem balls_core (N : D) (a w h s z x y dx dy m : Int) (k : Nat) (hs : a + 9 * (k : Int) = s) (t : Str) (e0 : fIx N (.int s) = .ok (.int z)) (ed : fIx (.lst [.tup [.int 1, .int 0], .tup [.int 0, .int 1], .tup [.int (-1), .int 0], .tup [.int 0, .int (-1)], .tup [.int 1, .int 1], .tup [.int (-1), .int 1], .tup [.int 1, .int (-1)], .tup [.int (-1), .int (-1)]]) (.int (z % 8)) = .ok (.tup [.int dx, .int dy]))
    (ex : f_law_big [N, .int (s + 1), .int 0, .int w] = .ok (.int x)) (ey : f_law_big [N, .int (s + 3), .int 0, .int h] = .ok (.int y)) (em : f_law_big [N, .int (s + 5), .int 0, .int 1000000000000000000000000000000] = .ok (.int m)) (en : f_law_name [N, .int 8, .int (k : Int)] = .ok (.str t)) (many : D) (PS : List D) (sz : PS.length < 16777216) (z7 z8 z9 : EV) :
    l_law_balls_0 [.dat N, .dat (.int a), .dat (.int w), .dat (.int h), .dat many, .own (.lst PS), .dat (.int k), z7, z8, z9] = .nx [.dat N, .dat (.int a), .dat (.int w), .dat (.int h), .dat many, .own (.lst (PS ++ [.tup [.str t, .int x, .int y, .int dx, .int dy, .int m]])), .dat (.int k), .dat (.int s), .dat (.tup [.int dx, .int dy]), .dat (.tup [.int x, .int y])] := by
  have ml : fMul (.int 9) (.int (k : Int)) = .ok (.int (9 * (k : Int))) := fMul_l (by decide)
  have a1 : fAdd (.tup [.str t]) (.tup [.int x, .int y]) = .ok (.tup [.str t, .int x, .int y]) := fAdd_tups (by simp) (by simp)
  have a2 : fAdd (.tup [.str t, .int x, .int y]) (.tup [.int dx, .int dy]) = .ok (.tup [.str t, .int x, .int y, .int dx, .int dy]) := fAdd_tups (by simp) (by simp)
  have a3 : fAdd (.tup [.str t, .int x, .int y, .int dx, .int dy]) (.tup [.int m]) = .ok (.tup [.str t, .int x, .int y, .int dx, .int dy, .int m]) := fAdd_tups (by simp) (by simp)
  unfold l_law_balls_0
  simp (disch := first | assumption | omega) [-List.map_map, -fLen_lst, -tru_lst, pSeq, pSet, pSetO, pWith, pBin, pV, pVo, pC, pCall, pCons, pNil, pTup, pLst, pUn, pIf, pIfS, pRet, pDrop, pAsg, pPar, pAug, pApp, pFrz, frzE, pB, pTr, pNot, pAnd, pOr, pAndV, pOrV, pNotV, pNotT, pChain, pNext, pFn, arity, pIter, pFor, pRg1, pRg2, pSl, pNo, pPart, pWhile, fuelI, pIsi, pIsiT, tyN, isiOk, isiB, isiAny, qStm, qFld, qPut, qKeep, qRest, pEnum2, enumOf, enumD, sz_eq, pDPutT, dKeys, dKey, pBestD, pIsC_eq, wipeE, pMeth_eq, List.getElem?_cons_zero, List.getElem?_cons_succ, ml, hs, e0, ed, ex, ey, em, en, a1, a2, a3, sz]
theorem law_balls_big {L : List Int} (hd : Dr L) (a : Int) (many : Nat) (a0 : 0 ≤ a) (hm : many ≤ 12) (hl : a + 9 * (many : Int) + 16 ≤ L.length) (w h : Int) (w0 : 0 ≤ w) (h0 : 0 ≤ h) (nm : Int → Str) (hn : ∀ k : Int, 0 ≤ k → k ≤ 1000 → f_law_name [.lst (dI L), .int 8, .int k] = .ok (.str (nm k))) (hg : ∀ k : Int, nameM (nm k) = true) :
    ∃ bs : List Ball, bs.length = many ∧ (∀ (i : Nat) b, bs[i]? = some b → b.t = nm i ∧ Fit w h b) ∧ f_law_balls [.lst (dI L), .int a, .int w, .int h, .int (many : Int)] = .ok (.lst (bs.map blD)) := by
  have e30 : (1000000000000000000000000000000 : Int) = 10 ^ 30 := by decide
  have rg : rgOk (many : Int) = true := rgOk_of (by omega) (by omega)
  obtain ⟨ρ', f1, bs, y6, y7, y8, y9, b1, b2, f2⟩ := forL_inv (g := gN 6) (body := l_law_balls_0) (ds := rgD 0 many) (ρ := [.dat (.lst (dI L)), .dat (.int a), .dat (.int w), .dat (.int h), .dat (.int (many : Int)), .own (.lst []), .unb, .unb, .unb, .unb])
    (fun i ρ => ∃ (bs : List Ball) (y6 y7 y8 y9 : EV), bs.length = i ∧ (∀ (j : Nat) b, bs[j]? = some b → b.t = nm j ∧ Fit w h b) ∧ ρ = [.dat (.lst (dI L)), .dat (.int a), .dat (.int w), .dat (.int h), .dat (.int (many : Int)), .own (.lst (bs.map blD)), y6, y7, y8, y9])
    ⟨[], .unb, .unb, .unb, .unb, rfl, fun j b hb => by simp at hb, rfl⟩ (fun i d ρ hd' ⟨bs, y6, y7, y8, y9, b1, b2, hρ⟩ => by
      subst hρ
      obtain ⟨rfl, hi⟩ := rgD_at hd'
      rw [Int.zero_add]
      obtain ⟨z, _, _, ez⟩ := ixL (L := L) (i := a + 9 * (i : Int)) (by omega) (by omega) hd
      obtain ⟨x, x0, x1, ex⟩ := law_big_is hd (a + 9 * (i : Int) + 1) 0 w (by omega) (by omega) w0
      obtain ⟨y, y0, y1, ey⟩ := law_big_is hd (a + 9 * (i : Int) + 3) 0 h (by omega) (by omega) h0
      obtain ⟨m, m0, m1, em⟩ := law_big_is hd (a + 9 * (i : Int) + 5) 0 1000000000000000000000000000000 (by omega) (by omega) (by decide)
      obtain ⟨dx, dy, hx, hy, hz, ed⟩ := dir8 z
      have st := balls_core (.lst (dI L)) a w h _ z x y dx dy m i rfl (nm i) ez ed ex ey em (hn i (by omega) (by omega)) (.int (many : Int)) (bs.map blD) (by rw [List.length_map]; omega) y7 y8 y9
      refine ⟨_, _, rfl, .inl st, bs ++ [⟨nm i, x, y, dx, dy, m⟩], _, _, _, _, by simp; omega, fun j b hb => ?_, by rw [List.map_append]; rfl⟩
      by_cases q : j < bs.length
      · rw [List.getElem?_append_left q] at hb
        exact b2 j b hb
      · rw [List.getElem?_append_right (by omega)] at hb
        have hj : j - bs.length = 0 := by
          have := (List.getElem?_eq_some_iff.mp hb).1
          simp at this; omega
        rw [hj] at hb
        have hb : (⟨nm i, x, y, dx, dy, m⟩ : Ball) = b := Option.some.inj hb
        subst hb
        have ji : j = i := by omega
        subst ji
        exact ⟨rfl, hg _, x0, x1, y0, y1, m0, by rw [← e30]; exact m1, hx, hy, hz⟩)
  rw [rgD_len] at b1
  refine ⟨bs, b1, b2, ?_⟩
  subst f2
  clear b2 hn hg
  generalize D.lst (dI L) = N at *
  generalize bs.map blD = BS at *
  unfold f_law_balls runF p_law_balls
  simp (disch := first | assumption | omega) [-List.map_map, -fLen_lst, -tru_lst, pSeq, pSet, pSetO, pWith, pBin, pV, pVo, pC, pCall, pCons, pNil, pTup, pLst, pUn, pIf, pIfS, pRet, pDrop, pAsg, pPar, pAug, pApp, pFrz, frzE, pB, pTr, pNot, pAnd, pOr, pAndV, pOrV, pNotV, pNotT, pChain, pNext, pFn, arity, pIter, pFor, pRg1, pRg2, pSl, pNo, pPart, pWhile, fuelI, pIsi, pIsiT, tyN, isiOk, isiB, isiAny, qStm, qFld, qPut, qKeep, qRest, pEnum2, enumOf, enumD, sz_eq, pDPutT, dKeys, dKey, pBestD, pIsC_eq, wipeE, pMeth_eq, List.getElem?_cons_zero, List.getElem?_cons_succ, rg, f1]
end DL
end

section
set_option linter.all false
set_option maxRecDepth 100000
set_option maxHeartbeats 4000000
set_option exponentiation.threshold 2000
namespace DL
open PySem L2
local macro_rules | `(tactic| walk_at "dm") => `(tactic| simp (disch := first | assumption | omega) [-List.map_map, pSeq, pSet, pSetO, pWith, pBin, pV, pVo, pC, pCall, pCons, pNil, pTup, pLst, pUn, pIf, pIfS, pRet, pDrop, pAsg, pPar, pAug, pApp, pFrz, frzE, pB, pTr, pNot, pAnd, pOr, pAndV, pOrV, pNotV, pNotT, pChain, pNext, pFn, arity, pIter, pFor, pRg1, pRg2, pSl, pNo, pPart, pWhile, fuelI, pIsi, pIsiT, tyN, isiOk, isiB, isiAny, qStm, qFld, qPut, qKeep, qRest, pEnum2, enumOf, enumD, sz_eq, pDPutT, dKeys, dKey, pBestD, pIsC_eq, wipeE, pMeth_eq, List.getElem?_cons_zero, List.getElem?_cons_succ, *])
/-! ## the made table -/
theorem made_big (w h : Int) (ps : List Cl) (w0 : 1 ≤ w) (w1 : w ≤ 10 ^ 30) (h0 : 1 ≤ h) (h1 : h ≤ 10 ^ 30) (hl : ps.length ≤ 12) (hn : ps.Nodup) (hi : ∀ p ∈ ps, inTab w h p = true) : f_law_made [.lst [.int w, .int h, .lst (ps.map cD)]] = .ok (tabP w h (.tup (ps.map cD))) := by
  have tm := table_made w h ps (.lst (ps.map cD)) rfl (by rw [fLen_lst, List.length_map]) w0 w1 h0 h1 hl hi hn
  have x0 : fIx (.lst [.int w, .int h, .lst (ps.map cD)]) (.int 0) = .ok (.int w) := fIx_lst (by decide) rfl
  have x1 : fIx (.lst [.int w, .int h, .lst (ps.map cD)]) (.int 1) = .ok (.int h) := fIx_lst (by decide) rfl
  have x2 : fIx (.lst [.int w, .int h, .lst (ps.map cD)]) (.int 2) = .ok (.lst (ps.map cD)) := fIx_lst (by decide) rfl
  clear hi hn hl
  generalize ps.map cD = PP at *
  unfold f_law_made runF p_law_made
  simp (disch := first | assumption | omega) [-List.map_map, -fLen_lst, -tru_lst, pSeq, pSet, pSetO, pWith, pBin, pV, pVo, pC, pCall, pCons, pNil, pTup, pLst, pUn, pIf, pIfS, pRet, pDrop, pAsg, pPar, pAug, pApp, pFrz, frzE, pB, pTr, pNot, pAnd, pOr, pAndV, pOrV, pNotV, pNotT, pChain, pNext, pFn, arity, pIter, pFor, pRg1, pRg2, pSl, pNo, pPart, pWhile, fuelI, pIsi, pIsiT, tyN, isiOk, isiB, isiAny, qStm, qFld, qPut, qKeep, qRest, pEnum2, enumOf, enumD, sz_eq, pDPutT, dKeys, dKey, pBestD, pIsC_eq, wipeE, pMeth_eq, List.getElem?_cons_zero, List.getElem?_cons_succ, x0, x1, x2, tm]
theorem same_big (w h : Int) (ps : List Cl) (hl : ps.length ≤ 12) : f_law_same [tabP w h (.tup (ps.map cD)), .lst [.int w, .int h, .lst (ps.map cD)]] = .ok (.bl true) := by
  have x0 : fIx (.lst [.int w, .int h, .lst (ps.map cD)]) (.int 0) = .ok (.int w) := fIx_lst (by decide) rfl
  have x1 : fIx (.lst [.int w, .int h, .lst (ps.map cD)]) (.int 1) = .ok (.int h) := fIx_lst (by decide) rfl
  have x2 : fIx (.lst [.int w, .int h, .lst (ps.map cD)]) (.int 2) = .ok (.lst (ps.map cD)) := fIx_lst (by decide) rfl
  have t0 := @tab_w w h (.tup (ps.map cD))
  have t1 := @tab_h w h (.tup (ps.map cD))
  have t2 := @tab_p w h (.tup (ps.map cD))
  have lc := pLc_map (ps := pIter (pBin fIx (pV 1) (pC (.int 2)))) (g := gN 2) (pe := e_law_same_0) (vs := [2]) (ρ := [.dat (tabP w h (.tup (ps.map cD))), .dat (.lst [.int w, .int h, .lst (ps.map cD)]), .unb]) (ds := ps.map cD) id (by
    simp (disch := first | assumption | omega) [-List.map_map, -fLen_lst, -tru_lst, pSeq, pSet, pSetO, pWith, pBin, pV, pVo, pC, pCall, pCons, pNil, pTup, pLst, pUn, pIf, pIfS, pRet, pDrop, pAsg, pPar, pAug, pApp, pFrz, frzE, pB, pTr, pNot, pAnd, pOr, pAndV, pOrV, pNotV, pNotT, pChain, pNext, pFn, arity, pIter, pFor, pRg1, pRg2, pSl, pNo, pPart, pWhile, fuelI, pIsi, pIsiT, tyN, isiOk, isiB, isiAny, qStm, qFld, qPut, qKeep, qRest, pEnum2, enumOf, enumD, sz_eq, pDPutT, dKeys, dKey, pBestD, pIsC_eq, wipeE, pMeth_eq, List.getElem?_cons_zero, List.getElem?_cons_succ, x2]) (le_sz (by simp; omega)) (fun a ha => by
    obtain ⟨c, _, rfl⟩ := List.mem_map.mp ha
    exact ⟨_, rfl, rfl⟩)
  rw [List.map_id] at lc
  have ly : lay 3 (.lst [.int w, .int h, .tup (ps.map cD)]) := lay_lst (k := 2) (fun d hd => by
    rcases List.mem_cons.mp hd with rfl | hd
    · exact lay_int
    rcases List.mem_cons.mp hd with rfl | hd
    · exact lay_int
    rcases List.mem_cons.mp hd with rfl | hd
    · exact lay_tup (k := 1) fun d hd => by
        obtain ⟨c, _, rfl⟩ := List.mem_map.mp hd; exact lay_cD c
    · cases hd)
  have eq := fEq_re ly (by decide) (fun _ z => by cases z)
  generalize tabP w h (.tup (ps.map cD)) = TT at *
  generalize ps.map cD = PP at *
  unfold f_law_same runF p_law_same
  simp (disch := first | assumption | omega) [-List.map_map, -fLen_lst, -tru_lst, pSeq, pSet, pSetO, pWith, pBin, pV, pVo, pC, pCall, pCons, pNil, pTup, pLst, pUn, pIf, pIfS, pRet, pDrop, pAsg, pPar, pAug, pApp, pFrz, frzE, pB, pTr, pNot, pAnd, pOr, pAndV, pOrV, pNotV, pNotT, pChain, pNext, pFn, arity, pIter, pFor, pRg1, pRg2, pSl, pNo, pPart, pWhile, fuelI, pIsi, pIsiT, tyN, isiOk, isiB, isiAny, qStm, qFld, qPut, qKeep, qRest, pEnum2, enumOf, enumD, sz_eq, pDPutT, dKeys, dKey, pBestD, pIsC_eq, wipeE, pMeth_eq, List.getElem?_cons_zero, List.getElem?_cons_succ, x0, x1, x2, t0, t1, t2, lc, eq]

/-! ## back, mirrored, turned -/
def bBack (b : Ball) : Ball := ⟨b.t, b.x, b.y, -b.dx, -b.dy, b.m⟩
def bTurn (b : Ball) : Ball := ⟨b.t, b.y, b.x, b.dy, b.dx, b.m⟩
def bMir (w h : Int) (s e : Bool) (b : Ball) : Ball := ⟨b.t, if s then w - b.x else b.x, if e then h - b.y else b.y, if s then -b.dx else b.dx, if e then -b.dy else b.dy, b.m⟩
theorem back_fit {w h : Int} {b : Ball} (f : Fit w h b) : Fit w h (bBack b) := ⟨f.nm, f.x0, f.x1, f.y0, f.y1, f.m0, f.m1, by have := f.dx; show -b.dx = -1 ∨ -b.dx = 0 ∨ -b.dx = 1; omega, by have := f.dy; show -b.dy = -1 ∨ -b.dy = 0 ∨ -b.dy = 1; omega, fun z => f.nz (by have z1 : -b.dx = 0 := z.1; have z2 : -b.dy = 0 := z.2; omega)⟩
theorem turn_fit {w h : Int} {b : Ball} (f : Fit w h b) : Fit h w (bTurn b) := ⟨f.nm, f.y0, f.y1, f.x0, f.x1, f.m0, f.m1, f.dy, f.dx, fun z => f.nz ⟨z.2, z.1⟩⟩
theorem mir_fit {w h : Int} {b : Ball} (s e : Bool) (f : Fit w h b) : Fit w h (bMir w h s e b) := by
  have a1 := f.x0; have a2 := f.x1; have a3 := f.y0; have a4 := f.y1; have d1 := f.dx; have d2 := f.dy; have nz := f.nz
  refine ⟨f.nm, ?_, ?_, ?_, ?_, f.m0, f.m1, ?_, ?_, ?_⟩ <;> cases s <;> cases e <;> simp only [bMir] <;> simp <;> omega
theorem bBack_2 (b : Ball) : bBack (bBack b) = b := by unfold bBack; simp
theorem bTurn_2 (b : Ball) : bTurn (bTurn b) = b := rfl
theorem bMir_2 (w h : Int) (s e : Bool) (b : Ball) : bMir w h s e (bMir w h s e b) = b := by
  have e1 : w - (w - b.x) = b.x := by omega
  have e2 : h - (h - b.y) = b.y := by omega
  cases s <;> cases e <;> simp [bMir, e1, e2]
theorem ck_ok {w h : Int} {pk : D} {b : Ball} (f : Fit w h b) : f_check_ball [tabP w h pk, blD b] = .ok .non := by
  have cb := check_ball_is w h pk b (nameM_len f.nm)
  rw [ballM_iff.mpr f, if_pos rfl] at cb; exact cb
theorem back_is {w h : Int} {pk : D} {b : Ball} (f : Fit w h b) : f_back [tabP w h pk, blD b] = .ok (blD (bBack b)) := by
  have cb := ck_ok (pk := pk) f
  generalize tabP w h pk = TT at *
  show f_back [TT, .tup [.str b.t, .int b.x, .int b.y, .int b.dx, .int b.dy, .int b.m]] = .ok (.tup [.str b.t, .int b.x, .int b.y, .int (-b.dx), .int (-b.dy), .int b.m])
  have cb : f_check_ball [TT, .tup [.str b.t, .int b.x, .int b.y, .int b.dx, .int b.dy, .int b.m]] = .ok .non := cb
  unfold f_back runF p_back
  simp (disch := first | assumption | omega) [-List.map_map, -fLen_lst, -tru_lst, pSeq, pSet, pSetO, pWith, pBin, pV, pVo, pC, pCall, pCons, pNil, pTup, pLst, pUn, pIf, pIfS, pRet, pDrop, pAsg, pPar, pAug, pApp, pFrz, frzE, pB, pTr, pNot, pAnd, pOr, pAndV, pOrV, pNotV, pNotT, pChain, pNext, pFn, arity, pIter, pFor, pRg1, pRg2, pSl, pNo, pPart, pWhile, fuelI, pIsi, pIsiT, tyN, isiOk, isiB, isiAny, qStm, qFld, qPut, qKeep, qRest, pEnum2, enumOf, enumD, sz_eq, pDPutT, dKeys, dKey, pBestD, pIsC_eq, wipeE, pMeth_eq, List.getElem?_cons_zero, List.getElem?_cons_succ, gTp, gsCons, gsNil, gN, cb]
theorem turned_is {w h : Int} {pk : D} {b : Ball} (f : Fit w h b) : f_turned [tabP w h pk, blD b] = .ok (blD (bTurn b)) := by
  have cb := ck_ok (pk := pk) f
  generalize tabP w h pk = TT at *
  show f_turned [TT, .tup [.str b.t, .int b.x, .int b.y, .int b.dx, .int b.dy, .int b.m]] = .ok (.tup [.str b.t, .int b.y, .int b.x, .int b.dy, .int b.dx, .int b.m])
  have cb : f_check_ball [TT, .tup [.str b.t, .int b.x, .int b.y, .int b.dx, .int b.dy, .int b.m]] = .ok .non := cb
  unfold f_turned runF p_turned
  simp (disch := first | assumption | omega) [-List.map_map, -fLen_lst, -tru_lst, pSeq, pSet, pSetO, pWith, pBin, pV, pVo, pC, pCall, pCons, pNil, pTup, pLst, pUn, pIf, pIfS, pRet, pDrop, pAsg, pPar, pAug, pApp, pFrz, frzE, pB, pTr, pNot, pAnd, pOr, pAndV, pOrV, pNotV, pNotT, pChain, pNext, pFn, arity, pIter, pFor, pRg1, pRg2, pSl, pNo, pPart, pWhile, fuelI, pIsi, pIsiT, tyN, isiOk, isiB, isiAny, qStm, qFld, qPut, qKeep, qRest, pEnum2, enumOf, enumD, sz_eq, pDPutT, dKeys, dKey, pBestD, pIsC_eq, wipeE, pMeth_eq, List.getElem?_cons_zero, List.getElem?_cons_succ, gTp, gsCons, gsNil, gN, cb]
theorem mirrored_is {w h : Int} {pk : D} {b : Ball} (s e : Bool) (f : Fit w h b) : f_mirrored [tabP w h pk, blD b, .bl s, .bl e] = .ok (blD (bMir w h s e b)) := by
  have cb := ck_ok (pk := pk) f
  have tw := @tab_w w h pk
  have th := @tab_h w h pk
  generalize tabP w h pk = TT at *
  show f_mirrored [TT, .tup [.str b.t, .int b.x, .int b.y, .int b.dx, .int b.dy, .int b.m], .bl s, .bl e] = .ok (.tup [.str b.t, .int (if s then w - b.x else b.x), .int (if e then h - b.y else b.y), .int (if s then -b.dx else b.dx), .int (if e then -b.dy else b.dy), .int b.m])
  have cb : f_check_ball [TT, .tup [.str b.t, .int b.x, .int b.y, .int b.dx, .int b.dy, .int b.m]] = .ok .non := cb
  unfold f_mirrored runF p_mirrored
  cases s <;> cases e <;> simp (disch := first | assumption | omega) [-List.map_map, -fLen_lst, -tru_lst, pSeq, pSet, pSetO, pWith, pBin, pV, pVo, pC, pCall, pCons, pNil, pTup, pLst, pUn, pIf, pIfS, pRet, pDrop, pAsg, pPar, pAug, pApp, pFrz, frzE, pB, pTr, pNot, pAnd, pOr, pAndV, pOrV, pNotV, pNotT, pChain, pNext, pFn, arity, pIter, pFor, pRg1, pRg2, pSl, pNo, pPart, pWhile, fuelI, pIsi, pIsiT, tyN, isiOk, isiB, isiAny, qStm, qFld, qPut, qKeep, qRest, pEnum2, enumOf, enumD, sz_eq, pDPutT, dKeys, dKey, pBestD, pIsC_eq, wipeE, pMeth_eq, List.getElem?_cons_zero, List.getElem?_cons_succ, gTp, gsCons, gsNil, gN, cb, tw, th]
theorem back_no {T B : D} (h : f_check_ball [T, B] = .err "InvalidBall" none) : f_back [T, B] = .err "InvalidBall" none := by
  unfold f_back runF p_back
  simp (disch := first | assumption | omega) [-List.map_map, -fLen_lst, -tru_lst, pSeq, pSet, pSetO, pWith, pBin, pV, pVo, pC, pCall, pCons, pNil, pTup, pLst, pUn, pIf, pIfS, pRet, pDrop, pAsg, pPar, pAug, pApp, pFrz, frzE, pB, pTr, pNot, pAnd, pOr, pAndV, pOrV, pNotV, pNotT, pChain, pNext, pFn, arity, pIter, pFor, pRg1, pRg2, pSl, pNo, pPart, pWhile, fuelI, pIsi, pIsiT, tyN, isiOk, isiB, isiAny, qStm, qFld, qPut, qKeep, qRest, pEnum2, enumOf, enumD, sz_eq, pDPutT, dKeys, dKey, pBestD, pIsC_eq, wipeE, pMeth_eq, List.getElem?_cons_zero, List.getElem?_cons_succ, h]
theorem turned_no {T B : D} (h : f_check_ball [T, B] = .err "InvalidBall" none) : f_turned [T, B] = .err "InvalidBall" none := by
  unfold f_turned runF p_turned
  simp (disch := first | assumption | omega) [-List.map_map, -fLen_lst, -tru_lst, pSeq, pSet, pSetO, pWith, pBin, pV, pVo, pC, pCall, pCons, pNil, pTup, pLst, pUn, pIf, pIfS, pRet, pDrop, pAsg, pPar, pAug, pApp, pFrz, frzE, pB, pTr, pNot, pAnd, pOr, pAndV, pOrV, pNotV, pNotT, pChain, pNext, pFn, arity, pIter, pFor, pRg1, pRg2, pSl, pNo, pPart, pWhile, fuelI, pIsi, pIsiT, tyN, isiOk, isiB, isiAny, qStm, qFld, qPut, qKeep, qRest, pEnum2, enumOf, enumD, sz_eq, pDPutT, dKeys, dKey, pBestD, pIsC_eq, wipeE, pMeth_eq, List.getElem?_cons_zero, List.getElem?_cons_succ, h]
theorem mirrored_no {T B : D} {s e : D} (h : f_check_ball [T, B] = .err "InvalidBall" none) : f_mirrored [T, B, s, e] = .err "InvalidBall" none := by
  unfold f_mirrored runF p_mirrored
  simp (disch := first | assumption | omega) [-List.map_map, -fLen_lst, -tru_lst, pSeq, pSet, pSetO, pWith, pBin, pV, pVo, pC, pCall, pCons, pNil, pTup, pLst, pUn, pIf, pIfS, pRet, pDrop, pAsg, pPar, pAug, pApp, pFrz, frzE, pB, pTr, pNot, pAnd, pOr, pAndV, pOrV, pNotV, pNotT, pChain, pNext, pFn, arity, pIter, pFor, pRg1, pRg2, pSl, pNo, pPart, pWhile, fuelI, pIsi, pIsiT, tyN, isiOk, isiB, isiAny, qStm, qFld, qPut, qKeep, qRest, pEnum2, enumOf, enumD, sz_eq, pDPutT, dKeys, dKey, pBestD, pIsC_eq, wipeE, pMeth_eq, List.getElem?_cons_zero, List.getElem?_cons_succ, h]
theorem tab_turned_is (w h : Int) (ps : List Cl) (w0 : 1 ≤ w) (w1 : w ≤ 10 ^ 30) (h0 : 1 ≤ h) (h1 : h ≤ 10 ^ 30) (hl : ps.length ≤ 12) (hn : ps.Nodup) (hi : ∀ p ∈ ps, inTab w h p = true) : f_Table_turned [tabP w h (.tup (ps.map cD))] = .ok (tabP h w (.tup ((ps.map swC).map cD))) := by
  have lc := pLc_mapT (ps := pIter (pUn (fFld "Table" "pockets") (pV 0))) (g := gTp (gsCons (gN 1) (gsCons (gN 2) gsNil))) (pe := e_Table_turned_0) (vs := [1, 2]) (ρ := [.dat (tabP w h (.tup (ps.map cD))), .unb, .unb]) (xs := ps) cD cD swC (by rfl) (le_sz (by omega)) (fun c _ => ⟨_, rfl, rfl⟩)
  have tm := table_made h w (ps.map swC) (.lst ((ps.map swC).map cD)) rfl (by rw [fLen_lst, List.length_map]) h0 h1 w0 w1 (by rw [List.length_map]; exact hl) (fun p hp => by
    obtain ⟨q, hq, rfl⟩ := List.mem_map.mp hp
    have z := of_decide_eq_true (hi q hq)
    exact decide_eq_true ⟨z.2.2.1, z.2.2.2, z.1, z.2.1⟩) (hn.map swC (fun a b ne z => ne (by
    have x := congrArg Prod.fst z
    have y := congrArg Prod.snd z
    exact Prod.ext y x)))
  have tw := @tab_w w h (.tup (ps.map cD))
  have th := @tab_h w h (.tup (ps.map cD))
  clear hi hn
  generalize tabP w h (.tup (ps.map cD)) = TT at *
  generalize (ps.map swC).map cD = PC at *
  unfold f_Table_turned runF p_Table_turned
  simp (disch := first | assumption | omega) [-List.map_map, -fLen_lst, -tru_lst, pSeq, pSet, pSetO, pWith, pBin, pV, pVo, pC, pCall, pCons, pNil, pTup, pLst, pUn, pIf, pIfS, pRet, pDrop, pAsg, pPar, pAug, pApp, pFrz, frzE, pB, pTr, pNot, pAnd, pOr, pAndV, pOrV, pNotV, pNotT, pChain, pNext, pFn, arity, pIter, pFor, pRg1, pRg2, pSl, pNo, pPart, pWhile, fuelI, pIsi, pIsiT, tyN, isiOk, isiB, isiAny, qStm, qFld, qPut, qKeep, qRest, pEnum2, enumOf, enumD, sz_eq, pDPutT, dKeys, dKey, pBestD, pIsC_eq, wipeE, pMeth_eq, List.getElem?_cons_zero, List.getElem?_cons_succ, tw, th, lc, tm]
end DL
end

section
set_option linter.all false
set_option maxRecDepth 100000
set_option maxHeartbeats 4000000
set_option exponentiation.threshold 2000
namespace DL
open PySem L2
local macro_rules | `(tactic| walk_at "dm") => `(tactic| simp (disch := first | assumption | omega) [-List.map_map, pSeq, pSet, pSetO, pWith, pBin, pV, pVo, pC, pCall, pCons, pNil, pTup, pLst, pUn, pIf, pIfS, pRet, pDrop, pAsg, pPar, pAug, pApp, pFrz, frzE, pB, pTr, pNot, pAnd, pOr, pAndV, pOrV, pNotV, pNotT, pChain, pNext, pFn, arity, pIter, pFor, pRg1, pRg2, pSl, pNo, pPart, pWhile, fuelI, pIsi, pIsiT, tyN, isiOk, isiB, isiAny, qStm, qFld, qPut, qKeep, qRest, pEnum2, enumOf, enumD, sz_eq, pDPutT, dKeys, dKey, pBestD, pIsC_eq, wipeE, pMeth_eq, List.getElem?_cons_zero, List.getElem?_cons_succ, *])
/-! ## check_balls, in general -/
theorem forL_err {g : D → Ev → Option Ev} {body : Ev → Fl} {d : D} {ds : List D} {ρ ρ1 ρ2 : Ev} {c : Str} {x : Option (Str × D)} (h1 : g d ρ = some ρ1) (h2 : body ρ1 = .err c x ρ2) : forL g body (d :: ds) ρ = .err c x ρ2 := by
  show (match g d ρ with | none => Fl.no | some ρ1 => match body ρ1 with | .nx ρ2 => forL g body ds ρ2 | .ct ρ2 => forL g body ds ρ2 | .bk ρ2 => .nx ρ2 | .rt d => .rt d | .err c x ρ2 => .err c x ρ2 | .no => .no) = _
  rw [h1]; simp only; rw [h2]
theorem names_at (ds : List D) (bls : List Ball) (i : Nat) (hi : ds.take i = bls.map blD) (hl : bls.length ≤ 100) (T : D) (z2 z3 : EV) : pLc (pIter (pSl fSl (pV 1) pNo (pPart (pV 2)))) (gN 4) pYes e_check_balls_0 [4] [.dat T, .dat (.lst ds), .dat (.int i), z2, z3] = .ok (.lst ((bls.map (·.t)).map .str)) := by
  refine pLc_mapT (xs := bls) blD .str (·.t) ?_ (le_sz (by omega)) (fun a ha => ⟨_, rfl, ?_⟩)
  · have := @fSl_lst ds none (some (i : Int))
    rw [cutD_take, hi] at this
    simp [-List.map_map, -List.map_take, pIter, pSl, pV, pNo, pPart, this]
  · unfold e_check_balls_0
    have := @bl0 a
    simp [pBin, pV, pC, this, wipeE]
theorem cb_step {w h : Int} {pk : D} (ds : List D) (bls : List Ball) (i : Nat) (hi : ds.take i = bls.map blD) (hl : bls.length ≤ 100) (b : Ball) (f : Fit w h b) :
    l_check_balls_0 [.dat (tabP w h pk), .dat (.lst ds), .dat (.int i), .dat (blD b), .unb] = if b.t ∈ bls.map (·.t) then .err "InvalidBall" none [.dat (tabP w h pk), .dat (.lst ds), .dat (.int i), .dat (blD b), .unb] else .nx [.dat (tabP w h pk), .dat (.lst ds), .dat (.int i), .dat (blD b), .unb] := by
  have tk := names_at ds bls i hi hl (tabP w h pk) (.dat (blD b)) .unb
  have ni : fIn2 false (.str b.t) (.lst ((bls.map (·.t)).map .str)) = .ok (.bl (decide (b.t ∈ bls.map (·.t)))) := by
    rw [in_strs]; simp
  have cb := ck_ok (pk := pk) f
  have b0 := @bl0 b
  by_cases q : b.t ∈ bls.map (·.t)
  · rw [if_pos q]
    rw [decide_eq_true q] at ni
    clear hi q
    generalize tabP w h pk = T at *
    generalize blD b = B at *
    generalize (bls.map (·.t)).map D.str = NM at *
    unfold l_check_balls_0
    simp [pSeq, pDrop, pWith, pFn, pCons, pV, pNil, arity, cb, pIfS, pB, pBin, b0, pC, tk, ni, pNext]
  · rw [if_neg q]
    rw [decide_eq_false q] at ni
    clear hi q
    generalize tabP w h pk = T at *
    generalize blD b = B at *
    generalize (bls.map (·.t)).map D.str = NM at *
    unfold l_check_balls_0
    simp [pSeq, pDrop, pWith, pFn, pCons, pV, pNil, arity, cb, pIfS, pB, pBin, b0, pC, tk, ni, pNext]
theorem cb_loop {w h : Int} {pk : D} (ds : List D) : ∀ (todo done : List Ball) (rest : List D) (z2 z3 : EV), ds = done.map blD ++ (todo.map blD ++ rest) → (∀ b ∈ todo, Fit w h b) → ((done ++ todo).map (·.t)).Nodup → done.length + todo.length ≤ 100 →
    ∃ y2 y3, forL (gTp (gsCons (gN 2) (gsCons (gN 3) gsNil))) l_check_balls_0 (enumD (done.length : Int) (todo.map blD ++ rest)) [.dat (tabP w h pk), .dat (.lst ds), z2, z3, .unb] = forL (gTp (gsCons (gN 2) (gsCons (gN 3) gsNil))) l_check_balls_0 (enumD ((done.length + todo.length : Nat) : Int) rest) [.dat (tabP w h pk), .dat (.lst ds), y2, y3, .unb]
  | [], done, rest, z2, z3, hds, hf, nd, hl => ⟨z2, z3, rfl⟩
  | b :: todo, done, rest, z2, z3, hds, hf, nd, hl => by
    rw [List.length_cons] at hl
    have f := hf b List.mem_cons_self
    have hi : ds.take done.length = done.map blD := by
      rw [hds, List.take_append_of_le_length (by simp), List.take_of_length_le (by simp)]
    have st := cb_step (pk := pk) ds done done.length hi (by omega) b f
    have nb : ¬ b.t ∈ done.map (·.t) := fun z => by
      rw [List.map_append, List.nodup_append] at nd
      exact nd.2.2 b.t z b.t (by simp) rfl
    rw [if_neg nb] at st
    obtain ⟨y2, y3, e⟩ := cb_loop ds todo (done ++ [b]) rest (.dat (.int (done.length : Int))) (.dat (blD b)) (by rw [hds]; simp) (fun c hc => hf c (List.mem_cons_of_mem _ hc)) (by rw [List.append_assoc]; exact nd) (by simp; omega)
    refine ⟨y2, y3, ?_⟩
    have e1 : enumD (done.length : Int) ((b :: todo).map blD ++ rest) = .tup [.int (done.length : Int), blD b] :: enumD ((done.length : Int) + 1) (todo.map blD ++ rest) := rfl
    rw [e1, forL_step (ρ1 := [.dat (tabP w h pk), .dat (.lst ds), .dat (.int (done.length : Int)), .dat (blD b), .unb]) rfl st]
    have l1 : (((done ++ [b]).length : Nat) : Int) = (done.length : Int) + 1 := by simp
    have l2 : (done ++ [b]).length + todo.length = done.length + (b :: todo).length := by simp; omega
    rw [l1, l2] at e
    exact e
theorem cb_nx {T : D} {ds : List D} {y2 y3 : EV} (h : forL (gTp (gsCons (gN 2) (gsCons (gN 3) gsNil))) l_check_balls_0 (enumD 0 ds) [.dat T, .dat (.lst ds), .unb, .unb, .unb] = .nx [.dat T, .dat (.lst ds), y2, y3, .unb]) : f_check_balls [T, .lst ds] = if (12 : Int) < (ds.length : Int) then .err "InvalidBall" none else .ok .non := by
  have en : pEnum2 (pCons (pV 1) pNil) [.dat T, .dat (.lst ds), .unb, .unb, .unb] = .ok (enumD 0 ds) := rfl
  have mb : c_MOST_BALLS = .int 12 := rfl
  have ln : fLen [.lst ds] = .ok (.int (ds.length : Int)) := rfl
  generalize (ds.length : Int) = n at *
  unfold f_check_balls runF p_check_balls
  by_cases q : (12 : Int) < n
  · rw [if_pos q]
    simp [-fLen_lst, pSeq, pFor, pWith, en, h, pIfS, pB, pBin, pCall, pCons, pNil, pV, pC, mb, pNext, ln, q]
  · rw [if_neg q]
    simp [-fLen_lst, pSeq, pFor, pWith, en, h, pIfS, pB, pBin, pCall, pCons, pNil, pV, pC, mb, pNext, ln, q]
theorem cb_err {T : D} {ds : List D} {ρ : Ev} (h : forL (gTp (gsCons (gN 2) (gsCons (gN 3) gsNil))) l_check_balls_0 (enumD 0 ds) [.dat T, .dat (.lst ds), .unb, .unb, .unb] = .err "InvalidBall" none ρ) : f_check_balls [T, .lst ds] = .err "InvalidBall" none := by
  have en : pEnum2 (pCons (pV 1) pNil) [.dat T, .dat (.lst ds), .unb, .unb, .unb] = .ok (enumD 0 ds) := rfl
  unfold f_check_balls runF p_check_balls
  simp [pSeq, pFor, pWith, en, h]
theorem check_bad {w h : Int} {pk : D} (pre : List Ball) (d : D) (rest : List D) (f : ∀ b ∈ pre, Fit w h b) (nd : (pre.map (·.t)).Nodup) (hl : pre.length ≤ 100) (hd : f_check_ball [tabP w h pk, d] = .err "InvalidBall" none) : f_check_balls [tabP w h pk, .lst (pre.map blD ++ d :: rest)] = .err "InvalidBall" none := by
  obtain ⟨y2, y3, e⟩ := cb_loop (pk := pk) (pre.map blD ++ d :: rest) pre [] (d :: rest) .unb .unb (by simp) f (by simpa using nd) (by simp; omega)
  have e2 := e.trans (forL_err (ρ1 := [.dat (tabP w h pk), .dat (.lst (pre.map blD ++ d :: rest)), .dat (.int (([] : List Ball).length + pre.length : Nat)), .dat d, .unb]) (ρ2 := [.dat (tabP w h pk), .dat (.lst (pre.map blD ++ d :: rest)), .dat (.int (([] : List Ball).length + pre.length : Nat)), .dat d, .unb]) (c := "InvalidBall") (x := none) rfl (by
    generalize tabP w h pk = T at *
    generalize pre.map blD ++ d :: rest = DS at *
    unfold l_check_balls_0
    simp [pSeq, pDrop, pWith, pFn, pCons, pV, pNil, arity, hd]))
  exact cb_err e2
theorem check_many {w h : Int} {pk : D} (bls : List Ball) (f : ∀ b ∈ bls, Fit w h b) (nd : (bls.map (·.t)).Nodup) (hl : bls.length ≤ 100) (hm : 12 < bls.length) : f_check_balls [tabP w h pk, .lst (bls.map blD)] = .err "InvalidBall" none := by
  obtain ⟨y2, y3, e⟩ := cb_loop (pk := pk) (bls.map blD) bls [] [] .unb .unb (by simp) f (by simpa using nd) (by simp; omega)
  rw [List.append_nil] at e
  have := cb_nx (T := tabP w h pk) (ds := bls.map blD) (y2 := y2) (y3 := y3) e
  rw [this, if_pos (by rw [List.length_map]; omega)]
theorem split_dup : ∀ (bls done : List Ball), (done.map (·.t)).Nodup → ¬ ((done ++ bls).map (·.t)).Nodup → ∃ pre b post, bls = pre ++ b :: post ∧ ((done ++ pre).map (·.t)).Nodup ∧ b.t ∈ (done ++ pre).map (·.t)
  | [], done, h1, h2 => absurd (by simpa using h1) h2
  | b :: bls, done, h1, h2 => by
    by_cases q : b.t ∈ done.map (·.t)
    · exact ⟨[], b, bls, rfl, by simpa using h1, by simpa using q⟩
    · have nd : ((done ++ [b]).map (·.t)).Nodup := by
        rw [List.map_append, List.nodup_append]
        refine ⟨h1, by simp, fun x hx y hy e => ?_⟩
        simp at hy
        subst hy; subst e
        exact q hx
      obtain ⟨pre, c, post, e, n1, n2⟩ := split_dup bls (done ++ [b]) nd (by rw [List.append_assoc]; exact h2)
      exact ⟨b :: pre, c, post, by rw [e]; rfl, by rw [List.append_assoc] at n1; exact n1, by rw [List.append_assoc] at n2; exact n2⟩
theorem check_dup {w h : Int} {pk : D} (bls : List Ball) (f : ∀ b ∈ bls, Fit w h b) (nd : ¬ (bls.map (·.t)).Nodup) (hl : bls.length ≤ 100) : f_check_balls [tabP w h pk, .lst (bls.map blD)] = .err "InvalidBall" none := by
  obtain ⟨pre, b, post, e0, n1, n2⟩ := split_dup bls [] (by simp) (by simpa using nd)
  rw [List.nil_append] at n1 n2
  subst e0
  have fp : ∀ c ∈ pre, Fit w h c := fun c hc => f c (List.mem_append_left _ hc)
  have fb := f b (List.mem_append_right _ List.mem_cons_self)
  rw [List.length_append, List.length_cons] at hl
  have em : (pre ++ b :: post).map blD = pre.map blD ++ blD b :: post.map blD := by rw [List.map_append]; rfl
  rw [em]
  obtain ⟨y2, y3, e⟩ := cb_loop (pk := pk) (pre.map blD ++ blD b :: post.map blD) pre [] (blD b :: post.map blD) .unb .unb (by simp) fp (by simpa using n1) (by simp; omega)
  have hi : (pre.map blD ++ blD b :: post.map blD).take (([] : List Ball).length + pre.length) = pre.map blD := by
    rw [List.length_nil, Nat.zero_add, List.take_append_of_le_length (by simp), List.take_of_length_le (by simp)]
  have st := cb_step (pk := pk) (pre.map blD ++ blD b :: post.map blD) pre (([] : List Ball).length + pre.length) hi (by omega) b fb
  rw [if_pos n2] at st
  exact cb_err (e.trans (forL_err (ρ1 := [.dat (tabP w h pk), .dat (.lst (pre.map blD ++ blD b :: post.map blD)), .dat (.int (([] : List Ball).length + pre.length : Nat)), .dat (blD b), .unb]) rfl st))
end DL
end

section
set_option linter.all false
set_option maxRecDepth 100000
set_option maxHeartbeats 4000000
set_option exponentiation.threshold 2000
namespace DL
open PySem L2
local macro_rules | `(tactic| walk_at "dm") => `(tactic| simp (disch := first | assumption | omega) [-List.map_map, pSeq, pSet, pSetO, pWith, pBin, pV, pVo, pC, pCall, pCons, pNil, pTup, pLst, pUn, pIf, pIfS, pRet, pDrop, pAsg, pPar, pAug, pApp, pFrz, frzE, pB, pTr, pNot, pAnd, pOr, pAndV, pOrV, pNotV, pNotT, pChain, pNext, pFn, arity, pIter, pFor, pRg1, pRg2, pSl, pNo, pPart, pWhile, fuelI, pIsi, pIsiT, tyN, isiOk, isiB, isiAny, qStm, qFld, qPut, qKeep, qRest, pEnum2, enumOf, enumD, sz_eq, pDPutT, dKeys, dKey, pBestD, pIsC_eq, wipeE, pMeth_eq, List.getElem?_cons_zero, List.getElem?_cons_succ, *])
/-! ## bad names -/
def amL : List Nat := ("abcdefghijklm" : Str).cps.toList
theorem am_eq : ("abcdefghijklm" : Str) = stL amL := by unfold stL amL; simp
theorem am_len : amL.length = 13 := by decide +kernel
def dgL : List Nat := ("0123456789" : Str).cps.toList
theorem dg_eq : ("0123456789" : Str) = stL dgL := by unfold stL dgL; simp
theorem dg_len : dgL.length = 10 := by decide +kernel
theorem dg_in : ∀ k : Nat, k < 10 → strIn ⟨#[dgL.getD k 0]⟩ "0123456789" = true := by decide +kernel
def bcS : Str := " !\"#$&'()*+,-./:;<=>?@ABCDEFGHIJKLMNOPQRSTUVWXYZ[\\]^_`{|}~"
def bcL : List Nat := bcS.cps.toList
theorem bc_eq : bcS = stL bcL := by unfold stL bcL; simp
def bcN : Nat := bcL.length
theorem bc_len : bcN = 58 := by decide +kernel
theorem bc_bad : ∀ k : Nat, k < 58 → goodC (bcL.getD k 0) = false := by decide +kernel
theorem bc_lt : ∀ k : Nat, k < 58 → bcL.getD k 0 < 1114112 := by decide +kernel
theorem sget {a : List Nat} {i : Int} (h : a.length ≤ 100) (h0 : 0 ≤ i) (h1 : i < a.length) : fIx (.str (stL a)) (.int i) = .ok (.str (stL [a.getD i.toNat 0])) := by
  have hl : i.toNat < a.length := by omega
  have := sidx (a := a) (i := i.toNat) (c := a.getD i.toNat 0) h (by rw [List.getD_eq_getElem?_getD, List.getElem?_eq_getElem hl]; rfl)
  rw [show ((i.toNat : Nat) : Int) = i by omega] at this
  exact this
theorem bad_name_is (n : Int) (n0 : 0 ≤ n) (l : List Nat) (l1 : 1 ≤ l.length) (l2 : l.length ≤ 12) : ∃ t', f_law_bad_name [.int n, .str (stL l)] = .ok (.str t') ∧ t'.cps.size ≤ 20 ∧ nameM t' = false := by
  have m4 : fMod (.int n) (.int 4) = .ok (.int (n % 4)) := fMod_ok (by decide)
  have d4 : fDiv (.int n) (.int 4) = .ok (.int (n / 4)) := fDiv_ok (by decide) (by decide)
  have d3 : fDiv (.int n) (.int 300) = .ok (.int (n / 300)) := fDiv_ok (by decide) (by decide)
  have q4 : 0 ≤ n / 4 := Int.ediv_nonneg n0 (by decide)
  rcases (show n % 4 = 0 ∨ n % 4 = 1 ∨ n % 4 = 2 ∨ n % 4 = 3 by omega) with q | q | q | q
  · refine ⟨"", ?_, by decide, by decide +kernel⟩
    unfold f_law_bad_name runF p_law_bad_name
    simp (disch := first | assumption | omega) [-List.map_map, -fLen_lst, -tru_lst, pSeq, pSet, pSetO, pWith, pBin, pV, pVo, pC, pCall, pCons, pNil, pTup, pLst, pUn, pIf, pIfS, pRet, pDrop, pAsg, pPar, pAug, pApp, pFrz, frzE, pB, pTr, pNot, pAnd, pOr, pAndV, pOrV, pNotV, pNotT, pChain, pNext, pFn, arity, pIter, pFor, pRg1, pRg2, pSl, pNo, pPart, pWhile, fuelI, pIsi, pIsiT, tyN, isiOk, isiB, isiAny, qStm, qFld, qPut, qKeep, qRest, pEnum2, enumOf, enumD, sz_eq, pDPutT, dKeys, dKey, pBestD, pIsC_eq, wipeE, pMeth_eq, List.getElem?_cons_zero, List.getElem?_cons_succ, m4, q]
  · have a1 := sadd (a := l) (b := amL) (by rw [am_len]; omega)
    have t1 := scut_take (a := l ++ amL) (k := 13) (by rw [List.length_append, am_len]; omega)
    rw [show (((13 : Nat)) : Int) = 13 from rfl] at t1
    have sz : (stL ((l ++ amL).take 13)).cps.size = 13 := by
      rw [stL_size, List.length_take, List.length_append, am_len]; omega
    refine ⟨stL ((l ++ amL).take 13), ?_, by omega, ?_⟩
    · rw [← am_eq] at a1
      generalize (l ++ amL).take 13 = l3 at *
      generalize l ++ amL = l4 at *
      clear sz
      unfold f_law_bad_name runF p_law_bad_name
      simp (disch := first | assumption | omega) [-List.map_map, -fLen_lst, -tru_lst, pSeq, pSet, pSetO, pWith, pBin, pV, pVo, pC, pCall, pCons, pNil, pTup, pLst, pUn, pIf, pIfS, pRet, pDrop, pAsg, pPar, pAug, pApp, pFrz, frzE, pB, pTr, pNot, pAnd, pOr, pAndV, pOrV, pNotV, pNotT, pChain, pNext, pFn, arity, pIter, pFor, pRg1, pRg2, pSl, pNo, pPart, pWhile, fuelI, pIsi, pIsiT, tyN, isiOk, isiB, isiAny, qStm, qFld, qPut, qKeep, qRest, pEnum2, enumOf, enumD, sz_eq, pDPutT, dKeys, dKey, pBestD, pIsC_eq, wipeE, pMeth_eq, List.getElem?_cons_zero, List.getElem?_cons_succ, m4, q, a1, t1]
    · unfold nameM
      rw [sz]; rfl
  · have r0 := Int.emod_nonneg (n / 4) (show (10 : Int) ≠ 0 by decide)
    have r1 := Int.emod_lt_of_pos (n / 4) (show (0 : Int) < 10 by decide)
    have m10 : fMod (.int (n / 4)) (.int 10) = .ok (.int (n / 4 % 10)) := fMod_ok (by decide)
    have ix := sget (a := dgL) (i := n / 4 % 10) (by rw [dg_len]; decide) r0 (by rw [dg_len]; omega)
    rw [← dg_eq] at ix
    have t1 := scut_drop (a := l) (k := 1) (by omega)
    rw [show (((1 : Nat)) : Int) = 1 from rfl] at t1
    have a1 := sadd (a := [dgL.getD (n / 4 % 10).toNat 0]) (b := l.drop 1) (by rw [List.length_drop]; simp; omega)
    refine ⟨stL ([dgL.getD (n / 4 % 10).toNat 0] ++ l.drop 1), ?_, by rw [stL_size, List.length_append, List.length_drop]; simp; omega, ?_⟩
    · generalize [dgL.getD (n / 4 % 10).toNat 0] ++ l.drop 1 = l5 at *
      generalize [dgL.getD (n / 4 % 10).toNat 0] = l3 at *
      generalize l.drop 1 = l4 at *
      clear r0 r1
      unfold f_law_bad_name runF p_law_bad_name
      simp (disch := first | assumption | omega) [-List.map_map, -fLen_lst, -tru_lst, pSeq, pSet, pSetO, pWith, pBin, pV, pVo, pC, pCall, pCons, pNil, pTup, pLst, pUn, pIf, pIfS, pRet, pDrop, pAsg, pPar, pAug, pApp, pFrz, frzE, pB, pTr, pNot, pAnd, pOr, pAndV, pOrV, pNotV, pNotT, pChain, pNext, pFn, arity, pIter, pFor, pRg1, pRg2, pSl, pNo, pPart, pWhile, fuelI, pIsi, pIsiT, tyN, isiOk, isiB, isiAny, qStm, qFld, qPut, qKeep, qRest, pEnum2, enumOf, enumD, sz_eq, pDPutT, dKeys, dKey, pBestD, pIsC_eq, wipeE, pMeth_eq, List.getElem?_cons_zero, List.getElem?_cons_succ, m4, q, d4, m10, ix, t1, a1]
    · have fs : firstS (stL ([dgL.getD (n / 4 % 10).toNat 0] ++ l.drop 1)) = ⟨#[dgL.getD (n / 4 % 10).toNat 0]⟩ := by
        unfold firstS stL; simp
      unfold nameM
      rw [fs, dg_in _ (by omega)]
      simp
  · have lb : bcL.length = 58 := bc_len
    have r0 := Int.emod_nonneg (n / 4) (show (58 : Int) ≠ 0 by decide)
    have r1 := Int.emod_lt_of_pos (n / 4) (show (0 : Int) < 58 by decide)
    have lnb := slen (a := bcL) (by omega)
    rw [lb, ← bc_eq] at lnb
    have lnb : fLen [.str bcS] = .ok (.int 58) := lnb
    have m58 : fMod (.int (n / 4)) (.int 58) = .ok (.int (n / 4 % 58)) := fMod_ok (by decide)
    have ix := sget (a := bcL) (i := n / 4 % 58) (by omega) r0 (by omega)
    rw [← bc_eq] at ix
    have ll := slen (a := l) (by omega)
    obtain ⟨p, hp⟩ : ∃ p : Nat, n / 300 % (l.length : Int) = p := ⟨(n / 300 % (l.length : Int)).toNat, by have := Int.emod_nonneg (n / 300) (show (l.length : Int) ≠ 0 by omega); omega⟩
    have mp : fMod (.int (n / 300)) (.int (l.length : Int)) = .ok (.int (p : Int)) := by rw [← hp]; exact fMod_ok (by omega)
    have t1 := scut_take (a := l) (k := p) (by omega)
    have t2 := scut_drop (a := l) (k := p + 1) (by omega)
    rw [show (((p + 1 : Nat)) : Int) = (p : Int) + 1 by omega] at t2
    have c1 : (l.take p).length ≤ 12 := by rw [List.length_take]; omega
    have c2 : (l.drop (p + 1)).length ≤ 12 := by rw [List.length_drop]; omega
    have pl : p < l.length := by have := Int.emod_lt_of_pos (n / 300) (show (0 : Int) < l.length by omega); omega
    have a1 := sadd (a := l.take p) (b := [bcL.getD (n / 4 % 58).toNat 0]) (by simp only [List.length_cons, List.length_nil]; omega)
    have a2 := sadd (a := l.take p ++ [bcL.getD (n / 4 % 58).toNat 0]) (b := l.drop (p + 1)) (by simp only [List.length_append, List.length_cons, List.length_nil]; omega)
    refine ⟨stL ((l.take p ++ [bcL.getD (n / 4 % 58).toNat 0]) ++ l.drop (p + 1)), ?_, ?_, ?_⟩
    · generalize (l.take p ++ [bcL.getD (n / 4 % 58).toNat 0]) ++ l.drop (p + 1) = l6 at *
      generalize l.take p ++ [bcL.getD (n / 4 % 58).toNat 0] = l5 at *
      generalize [bcL.getD (n / 4 % 58).toNat 0] = l3 at *
      generalize l.take p = l7 at *
      generalize l.drop (p + 1) = l8 at *
      clear r0 r1 hp
      have eb : (" !\"#$&'()*+,-./:;<=>?@ABCDEFGHIJKLMNOPQRSTUVWXYZ[\\]^_`{|}~" : Str) = bcS := rfl
      unfold f_law_bad_name runF p_law_bad_name
      rw [eb]
      generalize bcS = BC at *
      simp (disch := first | assumption | omega) [-List.map_map, -fLen_lst, -tru_lst, pSeq, pSet, pSetO, pWith, pBin, pV, pVo, pC, pCall, pCons, pNil, pTup, pLst, pUn, pIf, pIfS, pRet, pDrop, pAsg, pPar, pAug, pApp, pFrz, frzE, pB, pTr, pNot, pAnd, pOr, pAndV, pOrV, pNotV, pNotT, pChain, pNext, pFn, arity, pIter, pFor, pRg1, pRg2, pSl, pNo, pPart, pWhile, fuelI, pIsi, pIsiT, tyN, isiOk, isiB, isiAny, qStm, qFld, qPut, qKeep, qRest, pEnum2, enumOf, enumD, sz_eq, pDPutT, dKeys, dKey, pBestD, pIsC_eq, wipeE, pMeth_eq, List.getElem?_cons_zero, List.getElem?_cons_succ, m4, q, d4, d3, ll, mp, lnb, m58, ix, t1, t2, a1, a2]
    · rw [stL_size, List.length_append, List.length_append, List.length_take, List.length_drop]; simp only [List.length_cons, List.length_nil]; omega
    · have g := bc_bad (n / 4 % 58).toNat (by omega)
      unfold nameM
      have : (stL ((l.take p ++ [bcL.getD (n / 4 % 58).toNat 0]) ++ l.drop (p + 1))).cps.toList.all goodC = false := by
        unfold stL
        simp only [List.toList_toArray, List.all_append, List.all_cons, g]; simp
      rw [this]; simp
/-! ## what is no ball -/
theorem is_ball_len {T : D} {ds : List D} (h : ds.length ≠ 6) : f_is_ball [T, .tup ds] = .ok (.bl false) := by
  have ln : fLen [.tup ds] = .ok (.int (ds.length : Int)) := rfl
  have q : ¬ (ds.length : Int) = 6 := by omega
  generalize (ds.length : Int) = n at *
  unfold f_is_ball runF p_is_ball
  simp (disch := first | assumption | omega) [-List.map_map, -fLen_lst, -tru_lst, pSeq, pSet, pSetO, pWith, pBin, pV, pVo, pC, pCall, pCons, pNil, pTup, pLst, pUn, pIf, pIfS, pRet, pDrop, pAsg, pPar, pAug, pApp, pFrz, frzE, pB, pTr, pNot, pAnd, pOr, pAndV, pOrV, pNotV, pNotT, pChain, pNext, pFn, arity, pIter, pFor, pRg1, pRg2, pSl, pNo, pPart, pWhile, fuelI, pIsi, pIsiT, tyN, isiOk, isiB, isiAny, qStm, qFld, qPut, qKeep, qRest, pEnum2, enumOf, enumD, sz_eq, pDPutT, dKeys, dKey, pBestD, pIsC_eq, wipeE, pMeth_eq, List.getElem?_cons_zero, List.getElem?_cons_succ, ln, q]
theorem no_ball {w h : Int} {pk : D} {b : Ball} (hs : b.t.cps.size ≤ 20) (nf : ¬ Fit w h b) : f_is_ball [tabP w h pk, blD b] = .ok (.bl false) := by
  rw [is_ball_is w h pk b hs]
  congr 2
  cases q : ballM w h b with
  | false => rfl
  | true => exact absurd (ballM_iff.mp q) nf
theorem no_check {T B : D} (h : f_is_ball [T, B] = .ok (.bl false)) : f_check_ball [T, B] = .err "InvalidBall" none := by
  unfold f_check_ball runF p_check_ball
  simp (disch := first | assumption | omega) [-List.map_map, -fLen_lst, -tru_lst, pSeq, pSet, pSetO, pWith, pBin, pV, pVo, pC, pCall, pCons, pNil, pTup, pLst, pUn, pIf, pIfS, pRet, pDrop, pAsg, pPar, pAug, pApp, pFrz, frzE, pB, pTr, pNot, pAnd, pOr, pAndV, pOrV, pNotV, pNotT, pChain, pNext, pFn, arity, pIter, pFor, pRg1, pRg2, pSl, pNo, pPart, pWhile, fuelI, pIsi, pIsiT, tyN, isiOk, isiB, isiAny, qStm, qFld, qPut, qKeep, qRest, pEnum2, enumOf, enumD, sz_eq, pDPutT, dKeys, dKey, pBestD, pIsC_eq, wipeE, pMeth_eq, List.getElem?_cons_zero, List.getElem?_cons_succ, h]
end DL
end

section
set_option linter.all false
set_option maxRecDepth 100000
set_option maxHeartbeats 4000000
set_option exponentiation.threshold 2000
namespace DL
open PySem L2
local macro_rules | `(tactic| walk_at "dm") => `(tactic| simp (disch := first | assumption | omega) [-List.map_map, pSeq, pSet, pSetO, pWith, pBin, pV, pVo, pC, pCall, pCons, pNil, pTup, pLst, pUn, pIf, pIfS, pRet, pDrop, pAsg, pPar, pAug, pApp, pFrz, frzE, pB, pTr, pNot, pAnd, pOr, pAndV, pOrV, pNotV, pNotT, pChain, pNext, pFn, arity, pIter, pFor, pRg1, pRg2, pSl, pNo, pPart, pWhile, fuelI, pIsi, pIsiT, tyN, isiOk, isiB, isiAny, qStm, qFld, qPut, qKeep, qRest, pEnum2, enumOf, enumD, sz_eq, pDPutT, dKeys, dKey, pBestD, pIsC_eq, wipeE, pMeth_eq, List.getElem?_cons_zero, List.getElem?_cons_succ, *])
theorem four_ix (a b c d : D) (n : Int) : ∃ x, (x = a ∨ x = b ∨ x = c ∨ x = d) ∧ fIx (.lst [a, b, c, d]) (.int (n % 4)) = .ok x := by
  rcases (show n % 4 = 0 ∨ n % 4 = 1 ∨ n % 4 = 2 ∨ n % 4 = 3 by omega) with q | q | q | q <;> rw [q]
  · exact ⟨a, .inl rfl, fIx_lst (by decide) rfl⟩
  · exact ⟨b, .inr (.inl rfl), fIx_lst (by decide) rfl⟩
  · exact ⟨c, .inr (.inr (.inl rfl)), fIx_lst (by decide) rfl⟩
  · exact ⟨d, .inr (.inr (.inr rfl)), fIx_lst (by decide) rfl⟩
theorem far_ix (s n : Int) (n0 : 0 ≤ n) (s0 : 0 ≤ s) : ∃ x : Int, ¬ (0 ≤ x ∧ x ≤ s) ∧ fIx (.lst [.int (-1), .int (s + 1), .int (-1 - n), .int (s + 1 + n)]) (.int (n % 4)) = .ok (.int x) := by
  rcases (show n % 4 = 0 ∨ n % 4 = 1 ∨ n % 4 = 2 ∨ n % 4 = 3 by omega) with q | q | q | q <;> rw [q]
  · exact ⟨-1, by omega, fIx_lst (by decide) rfl⟩
  · exact ⟨s + 1, by omega, fIx_lst (by decide) rfl⟩
  · exact ⟨-1 - n, by omega, fIx_lst (by decide) rfl⟩
  · exact ⟨s + 1 + n, by omega, fIx_lst (by decide) rfl⟩
theorem spoilt_is (w h : Int) (pk : D) (b : Ball) (f : Fit w h b) (w0 : 0 ≤ w) (h0 : 0 ≤ h) (l : List Nat) (ht : b.t = stL l) (l1 : 1 ≤ l.length) (l2 : l.length ≤ 12) (c n : Int) (c0 : 0 ≤ c) (c1 : c < 7) (n0 : 0 ≤ n) :
    ∃ BD, f_law_spoilt [tabP w h pk, blD b, .int c, .int n] = .ok BD ∧ f_is_ball [tabP w h pk, BD] = .ok (.bl false) := by
  have sz := nameM_len f.nm
  have tw := @tab_w w h pk
  have th := @tab_h w h pk
  have m4 : fMod (.int n) (.int 4) = .ok (.int (n % 4)) := fMod_ok (by decide)
  have m2 : fMod (.int n) (.int 2) = .ok (.int (n % 2)) := fMod_ok (by decide)
  have m7 : fMod (.int n) (.int 7) = .ok (.int (n % 7)) := fMod_ok (by decide)
  have B6 : blD b = .tup [.str b.t, .int b.x, .int b.y, .int b.dx, .int b.dy, .int b.m] := rfl
  have e30 : (1000000000000000000000000000001 : Int) = 10 ^ 30 + 1 := by decide
  rcases (show c = 0 ∨ c = 1 ∨ c = 2 ∨ c = 3 ∨ c = 4 ∨ c = 5 ∨ c = 6 by omega) with q | q | q | q | q | q | q <;> subst q
  · obtain ⟨x, hx, ix⟩ := four_ix (.tup [.str b.t, .int b.x, .int b.y, .int b.dx, .int b.dy]) (.tup [.str b.t, .int b.x, .int b.y, .int b.dx, .int b.dy, .int b.m, .int 0]) (.tup [.str b.t]) (.tup []) n
    refine ⟨x, ?_, ?_⟩
    · have s5 : fSl (.tup [.str b.t, .int b.x, .int b.y, .int b.dx, .int b.dy, .int b.m]) none (some 5) = .ok (.tup [.str b.t, .int b.x, .int b.y, .int b.dx, .int b.dy]) := by rfl
      have s1 : fSl (.tup [.str b.t, .int b.x, .int b.y, .int b.dx, .int b.dy, .int b.m]) none (some 1) = .ok (.tup [.str b.t]) := by rfl
      have ad : fAdd (.tup [.str b.t, .int b.x, .int b.y, .int b.dx, .int b.dy, .int b.m]) (.tup [.int 0]) = .ok (.tup [.str b.t, .int b.x, .int b.y, .int b.dx, .int b.dy, .int b.m, .int 0]) := fAdd_tups (by simp) (by simp)
      rw [B6]
      clear hx sz e30 ht B6
      generalize tabP w h pk = TT at *
      unfold f_law_spoilt runF p_law_spoilt
      simp (disch := first | assumption | omega) [-List.map_map, -fLen_lst, -tru_lst, pSeq, pSet, pSetO, pWith, pBin, pV, pVo, pC, pCall, pCons, pNil, pTup, pLst, pUn, pIf, pIfS, pRet, pDrop, pAsg, pPar, pAug, pApp, pFrz, frzE, pB, pTr, pNot, pAnd, pOr, pAndV, pOrV, pNotV, pNotT, pChain, pNext, pFn, arity, pIter, pFor, pRg1, pRg2, pSl, pNo, pPart, pWhile, fuelI, pIsi, pIsiT, tyN, isiOk, isiB, isiAny, qStm, qFld, qPut, qKeep, qRest, pEnum2, enumOf, enumD, sz_eq, pDPutT, dKeys, dKey, pBestD, pIsC_eq, wipeE, pMeth_eq, List.getElem?_cons_zero, List.getElem?_cons_succ, gTp, gsCons, gsNil, gN, s5, s1, ad, m4, ix]
    · rcases hx with rfl | rfl | rfl | rfl <;> exact is_ball_len (by simp)
  · obtain ⟨t', et, s20, nm⟩ := bad_name_is n n0 l l1 l2
    refine ⟨blD ⟨t', b.x, b.y, b.dx, b.dy, b.m⟩, ?_, no_ball s20 fun z => by have := z.nm; rw [nm] at this; cases this⟩
    rw [B6]
    show _ = Rs.ok (D.tup [.str t', .int b.x, .int b.y, .int b.dx, .int b.dy, .int b.m])
    rw [← ht] at et
    clear sz e30 ht B6 nm
    generalize tabP w h pk = TT at *
    unfold f_law_spoilt runF p_law_spoilt
    simp (disch := first | assumption | omega) [-List.map_map, -fLen_lst, -tru_lst, pSeq, pSet, pSetO, pWith, pBin, pV, pVo, pC, pCall, pCons, pNil, pTup, pLst, pUn, pIf, pIfS, pRet, pDrop, pAsg, pPar, pAug, pApp, pFrz, frzE, pB, pTr, pNot, pAnd, pOr, pAndV, pOrV, pNotV, pNotT, pChain, pNext, pFn, arity, pIter, pFor, pRg1, pRg2, pSl, pNo, pPart, pWhile, fuelI, pIsi, pIsiT, tyN, isiOk, isiB, isiAny, qStm, qFld, qPut, qKeep, qRest, pEnum2, enumOf, enumD, sz_eq, pDPutT, dKeys, dKey, pBestD, pIsC_eq, wipeE, pMeth_eq, List.getElem?_cons_zero, List.getElem?_cons_succ, gTp, gsCons, gsNil, gN, et]
  · obtain ⟨x, hx, ix⟩ := far_ix w n n0 w0
    refine ⟨blD ⟨b.t, x, b.y, b.dx, b.dy, b.m⟩, ?_, no_ball sz fun z => hx ⟨z.x0, z.x1⟩⟩
    rw [B6]
    show _ = Rs.ok (D.tup [.str b.t, .int x, .int b.y, .int b.dx, .int b.dy, .int b.m])
    clear sz e30 ht B6 hx
    generalize tabP w h pk = TT at *
    unfold f_law_spoilt runF p_law_spoilt
    simp (disch := first | assumption | omega) [-List.map_map, -fLen_lst, -tru_lst, pSeq, pSet, pSetO, pWith, pBin, pV, pVo, pC, pCall, pCons, pNil, pTup, pLst, pUn, pIf, pIfS, pRet, pDrop, pAsg, pPar, pAug, pApp, pFrz, frzE, pB, pTr, pNot, pAnd, pOr, pAndV, pOrV, pNotV, pNotT, pChain, pNext, pFn, arity, pIter, pFor, pRg1, pRg2, pSl, pNo, pPart, pWhile, fuelI, pIsi, pIsiT, tyN, isiOk, isiB, isiAny, qStm, qFld, qPut, qKeep, qRest, pEnum2, enumOf, enumD, sz_eq, pDPutT, dKeys, dKey, pBestD, pIsC_eq, wipeE, pMeth_eq, List.getElem?_cons_zero, List.getElem?_cons_succ, gTp, gsCons, gsNil, gN, tw, m4, ix]
  · obtain ⟨x, hx, ix⟩ := far_ix h n n0 h0
    refine ⟨blD ⟨b.t, b.x, x, b.dx, b.dy, b.m⟩, ?_, no_ball sz fun z => hx ⟨z.y0, z.y1⟩⟩
    rw [B6]
    show _ = Rs.ok (D.tup [.str b.t, .int b.x, .int x, .int b.dx, .int b.dy, .int b.m])
    clear sz e30 ht B6 hx
    generalize tabP w h pk = TT at *
    unfold f_law_spoilt runF p_law_spoilt
    simp (disch := first | assumption | omega) [-List.map_map, -fLen_lst, -tru_lst, pSeq, pSet, pSetO, pWith, pBin, pV, pVo, pC, pCall, pCons, pNil, pTup, pLst, pUn, pIf, pIfS, pRet, pDrop, pAsg, pPar, pAug, pApp, pFrz, frzE, pB, pTr, pNot, pAnd, pOr, pAndV, pOrV, pNotV, pNotT, pChain, pNext, pFn, arity, pIter, pFor, pRg1, pRg2, pSl, pNo, pPart, pWhile, fuelI, pIsi, pIsiT, tyN, isiOk, isiB, isiAny, qStm, qFld, qPut, qKeep, qRest, pEnum2, enumOf, enumD, sz_eq, pDPutT, dKeys, dKey, pBestD, pIsC_eq, wipeE, pMeth_eq, List.getElem?_cons_zero, List.getElem?_cons_succ, gTp, gsCons, gsNil, gN, th, m4, ix]
  · obtain ⟨x, hx, ix⟩ := four_ix (.tup [.str b.t, .int b.x, .int b.y, .int 0, .int 0, .int b.m]) (.tup [.str b.t, .int b.x, .int b.y, .int 2, .int b.dy, .int b.m]) (.tup [.str b.t, .int b.x, .int b.y, .int (-2), .int b.dy, .int b.m]) (.tup [.str b.t, .int b.x, .int b.y, .int b.dx, .int 2, .int b.m]) n
    refine ⟨x, ?_, ?_⟩
    · rw [B6]
      clear sz e30 ht B6 hx
      generalize tabP w h pk = TT at *
      unfold f_law_spoilt runF p_law_spoilt
      simp (disch := first | assumption | omega) [-List.map_map, -fLen_lst, -tru_lst, pSeq, pSet, pSetO, pWith, pBin, pV, pVo, pC, pCall, pCons, pNil, pTup, pLst, pUn, pIf, pIfS, pRet, pDrop, pAsg, pPar, pAug, pApp, pFrz, frzE, pB, pTr, pNot, pAnd, pOr, pAndV, pOrV, pNotV, pNotT, pChain, pNext, pFn, arity, pIter, pFor, pRg1, pRg2, pSl, pNo, pPart, pWhile, fuelI, pIsi, pIsiT, tyN, isiOk, isiB, isiAny, qStm, qFld, qPut, qKeep, qRest, pEnum2, enumOf, enumD, sz_eq, pDPutT, dKeys, dKey, pBestD, pIsC_eq, wipeE, pMeth_eq, List.getElem?_cons_zero, List.getElem?_cons_succ, gTp, gsCons, gsNil, gN, m4, ix]
    · rcases hx with rfl | rfl | rfl | rfl
      · exact no_ball (b := ⟨b.t, b.x, b.y, 0, 0, b.m⟩) sz fun z => z.nz ⟨rfl, rfl⟩
      · exact no_ball (b := ⟨b.t, b.x, b.y, 2, b.dy, b.m⟩) sz fun z => by have := z.dx; simp at this
      · exact no_ball (b := ⟨b.t, b.x, b.y, -2, b.dy, b.m⟩) sz fun z => by have := z.dx; simp at this
      · exact no_ball (b := ⟨b.t, b.x, b.y, b.dx, 2, b.m⟩) sz fun z => by have := z.dy; simp at this
  · obtain ⟨x, hx, ix⟩ : ∃ x, (x = D.tup [.str b.t, .int b.x, .int b.y, .int b.dx, .int (-2), .int b.m] ∨ x = D.tup [.str b.t, .int b.x, .int b.y, .int b.dx, .int (1 + n % 7 + 1), .int b.m]) ∧ fIx (.lst [.tup [.str b.t, .int b.x, .int b.y, .int b.dx, .int (-2), .int b.m], .tup [.str b.t, .int b.x, .int b.y, .int b.dx, .int (1 + n % 7 + 1), .int b.m]]) (.int (n % 2)) = .ok x := by
      rcases (show n % 2 = 0 ∨ n % 2 = 1 by omega) with q | q <;> rw [q]
      · exact ⟨_, .inl rfl, fIx_lst (by decide) rfl⟩
      · exact ⟨_, .inr rfl, fIx_lst (by decide) rfl⟩
    refine ⟨x, ?_, ?_⟩
    · rw [B6]
      clear sz e30 ht B6 hx
      generalize tabP w h pk = TT at *
      unfold f_law_spoilt runF p_law_spoilt
      simp (disch := first | assumption | omega) [-List.map_map, -fLen_lst, -tru_lst, pSeq, pSet, pSetO, pWith, pBin, pV, pVo, pC, pCall, pCons, pNil, pTup, pLst, pUn, pIf, pIfS, pRet, pDrop, pAsg, pPar, pAug, pApp, pFrz, frzE, pB, pTr, pNot, pAnd, pOr, pAndV, pOrV, pNotV, pNotT, pChain, pNext, pFn, arity, pIter, pFor, pRg1, pRg2, pSl, pNo, pPart, pWhile, fuelI, pIsi, pIsiT, tyN, isiOk, isiB, isiAny, qStm, qFld, qPut, qKeep, qRest, pEnum2, enumOf, enumD, sz_eq, pDPutT, dKeys, dKey, pBestD, pIsC_eq, wipeE, pMeth_eq, List.getElem?_cons_zero, List.getElem?_cons_succ, gTp, gsCons, gsNil, gN, m2, m7, ix]
    · rcases hx with rfl | rfl
      · exact no_ball (b := ⟨b.t, b.x, b.y, b.dx, -2, b.m⟩) sz fun z => by have := z.dy; simp at this
      · exact no_ball (b := ⟨b.t, b.x, b.y, b.dx, 1 + n % 7 + 1, b.m⟩) sz fun z => by
          have := z.dy
          have this : 1 + n % 7 + 1 = -1 ∨ 1 + n % 7 + 1 = 0 ∨ 1 + n % 7 + 1 = 1 := this
          omega
  · obtain ⟨x, hx, ix⟩ := far_ix (10 ^ 30) n n0 (by decide)
    rw [← e30] at ix
    refine ⟨blD ⟨b.t, b.x, b.y, b.dx, b.dy, x⟩, ?_, no_ball sz fun z => hx ⟨z.m0, z.m1⟩⟩
    rw [B6]
    show _ = Rs.ok (D.tup [.str b.t, .int b.x, .int b.y, .int b.dx, .int b.dy, .int x])
    clear sz e30 ht B6 hx
    generalize tabP w h pk = TT at *
    unfold f_law_spoilt runF p_law_spoilt
    simp (disch := first | assumption | omega) [-List.map_map, -fLen_lst, -tru_lst, pSeq, pSet, pSetO, pWith, pBin, pV, pVo, pC, pCall, pCons, pNil, pTup, pLst, pUn, pIf, pIfS, pRet, pDrop, pAsg, pPar, pAug, pApp, pFrz, frzE, pB, pTr, pNot, pAnd, pOr, pAndV, pOrV, pNotV, pNotT, pChain, pNext, pFn, arity, pIter, pFor, pRg1, pRg2, pSl, pNo, pPart, pWhile, fuelI, pIsi, pIsiT, tyN, isiOk, isiB, isiAny, qStm, qFld, qPut, qKeep, qRest, pEnum2, enumOf, enumD, sz_eq, pDPutT, dKeys, dKey, pBestD, pIsC_eq, wipeE, pMeth_eq, List.getElem?_cons_zero, List.getElem?_cons_succ, gTp, gsCons, gsNil, gN, m4, ix]
/-! ## _law_checked -/
theorem pTryAs_rt {cat : Str → Option Bool} {i : Nat} {p : Ev → Fl} {q : Str → Addr → Ev → Fl} {ρ : Ev} {d : D} (h : p ρ = .rt d) : pTryAs cat i p q ρ = .rt d := by
  unfold pTryAs
  rw [h]
theorem chk_many {T G : D} (h : f_check_balls [T, G] = .ok .non) : f_law_checked [T, G, .bl true] = .ok (.bl true) := by
  have i : fIs .non .non = .ok (.bl true) := rfl
  have y : y_law_checked_0 [.dat T, .dat G, .dat (.bl true), .unb] = .rt (.bl true) := by
    unfold y_law_checked_0
    simp (disch := first | assumption | omega) [-List.map_map, -fLen_lst, -tru_lst, pSeq, pSet, pSetO, pWith, pBin, pV, pVo, pC, pCall, pCons, pNil, pTup, pLst, pUn, pIf, pIfS, pRet, pDrop, pAsg, pPar, pAug, pApp, pFrz, frzE, pB, pTr, pNot, pAnd, pOr, pAndV, pOrV, pNotV, pNotT, pChain, pNext, pFn, arity, pIter, pFor, pRg1, pRg2, pSl, pNo, pPart, pWhile, fuelI, pIsi, pIsiT, tyN, isiOk, isiB, isiAny, qStm, qFld, qPut, qKeep, qRest, pEnum2, enumOf, enumD, sz_eq, pDPutT, dKeys, dKey, pBestD, pIsC_eq, wipeE, pMeth_eq, List.getElem?_cons_zero, List.getElem?_cons_succ, h, i]
  unfold f_law_checked runF p_law_checked
  simp only [List.replicate, List.map_cons, List.map_nil, List.cons_append, List.nil_append, List.length_cons, List.length_nil] 
  simp (disch := first | assumption | omega) [-List.map_map, -fLen_lst, -tru_lst, pSeq, pSet, pSetO, pWith, pBin, pV, pVo, pC, pCall, pCons, pNil, pTup, pLst, pUn, pIf, pIfS, pRet, pDrop, pAsg, pPar, pAug, pApp, pFrz, frzE, pB, pTr, pNot, pAnd, pOr, pAndV, pOrV, pNotV, pNotT, pChain, pNext, pFn, arity, pIter, pFor, pRg1, pRg2, pSl, pNo, pPart, pWhile, fuelI, pIsi, pIsiT, tyN, isiOk, isiB, isiAny, qStm, qFld, qPut, qKeep, qRest, pEnum2, enumOf, enumD, sz_eq, pDPutT, dKeys, dKey, pBestD, pIsC_eq, wipeE, pMeth_eq, List.getElem?_cons_zero, List.getElem?_cons_succ, pTryAs_rt y]
theorem chk_one {T G : D} (h : f_check_ball [T, G] = .ok .non) : f_law_checked [T, G, .bl false] = .ok (.bl true) := by
  have i : fIs .non .non = .ok (.bl true) := rfl
  have y : y_law_checked_0 [.dat T, .dat G, .dat (.bl false), .unb] = .rt (.bl true) := by
    unfold y_law_checked_0
    simp (disch := first | assumption | omega) [-List.map_map, -fLen_lst, -tru_lst, pSeq, pSet, pSetO, pWith, pBin, pV, pVo, pC, pCall, pCons, pNil, pTup, pLst, pUn, pIf, pIfS, pRet, pDrop, pAsg, pPar, pAug, pApp, pFrz, frzE, pB, pTr, pNot, pAnd, pOr, pAndV, pOrV, pNotV, pNotT, pChain, pNext, pFn, arity, pIter, pFor, pRg1, pRg2, pSl, pNo, pPart, pWhile, fuelI, pIsi, pIsiT, tyN, isiOk, isiB, isiAny, qStm, qFld, qPut, qKeep, qRest, pEnum2, enumOf, enumD, sz_eq, pDPutT, dKeys, dKey, pBestD, pIsC_eq, wipeE, pMeth_eq, List.getElem?_cons_zero, List.getElem?_cons_succ, h, i]
  unfold f_law_checked runF p_law_checked
  simp (disch := first | assumption | omega) [-List.map_map, -fLen_lst, -tru_lst, pSeq, pSet, pSetO, pWith, pBin, pV, pVo, pC, pCall, pCons, pNil, pTup, pLst, pUn, pIf, pIfS, pRet, pDrop, pAsg, pPar, pAug, pApp, pFrz, frzE, pB, pTr, pNot, pAnd, pOr, pAndV, pOrV, pNotV, pNotT, pChain, pNext, pFn, arity, pIter, pFor, pRg1, pRg2, pSl, pNo, pPart, pWhile, fuelI, pIsi, pIsiT, tyN, isiOk, isiB, isiAny, qStm, qFld, qPut, qKeep, qRest, pEnum2, enumOf, enumD, sz_eq, pDPutT, dKeys, dKey, pBestD, pIsC_eq, wipeE, pMeth_eq, List.getElem?_cons_zero, List.getElem?_cons_succ, pTryAs_rt y]
theorem chk_no {T G : D} {m : Bool} (h : (if m then f_check_balls [T, G] else f_check_ball [T, G]) = .err "InvalidBall" none) : f_law_checked [T, G, .bl m] = .ok (.str "invalid") := by
  have ix : fIx (.lst [.str "odd", .str "invalid"]) (.int 1) = .ok (.str "invalid") := fIx_lst (by decide) rfl
  have tr : pTryAs (fun C => List.lookup C [("CushionedError", false), ("InvalidTable", false), ("InvalidBall", true)]) 3 y_law_checked_0 (qsel [("InvalidBall", h_law_checked_0)]) [.dat T, .dat G, .dat (.bl m), .unb] = .rt (.str "invalid") := by
    refine pTryAs_err (C := "InvalidBall") (ρ1 := [.dat T, .dat G, .dat (.bl m), .unb]) ?_ (by rfl) (fun a => ?_)
    · unfold y_law_checked_0
      cases m
      · have h : f_check_ball [T, G] = .err "InvalidBall" none := h
        simp (disch := first | assumption | omega) [-List.map_map, -fLen_lst, -tru_lst, pSeq, pSet, pSetO, pWith, pBin, pV, pVo, pC, pCall, pCons, pNil, pTup, pLst, pUn, pIf, pIfS, pRet, pDrop, pAsg, pPar, pAug, pApp, pFrz, frzE, pB, pTr, pNot, pAnd, pOr, pAndV, pOrV, pNotV, pNotT, pChain, pNext, pFn, arity, pIter, pFor, pRg1, pRg2, pSl, pNo, pPart, pWhile, fuelI, pIsi, pIsiT, tyN, isiOk, isiB, isiAny, qStm, qFld, qPut, qKeep, qRest, pEnum2, enumOf, enumD, sz_eq, pDPutT, dKeys, dKey, pBestD, pIsC_eq, wipeE, pMeth_eq, List.getElem?_cons_zero, List.getElem?_cons_succ, h]
      · have h : f_check_balls [T, G] = .err "InvalidBall" none := h
        simp (disch := first | assumption | omega) [-List.map_map, -fLen_lst, -tru_lst, pSeq, pSet, pSetO, pWith, pBin, pV, pVo, pC, pCall, pCons, pNil, pTup, pLst, pUn, pIf, pIfS, pRet, pDrop, pAsg, pPar, pAug, pApp, pFrz, frzE, pB, pTr, pNot, pAnd, pOr, pAndV, pOrV, pNotV, pNotT, pChain, pNext, pFn, arity, pIter, pFor, pRg1, pRg2, pSl, pNo, pPart, pWhile, fuelI, pIsi, pIsiT, tyN, isiOk, isiB, isiAny, qStm, qFld, qPut, qKeep, qRest, pEnum2, enumOf, enumD, sz_eq, pDPutT, dKeys, dKey, pBestD, pIsC_eq, wipeE, pMeth_eq, List.getElem?_cons_zero, List.getElem?_cons_succ, h]
    · have hs : qsel [("InvalidBall", h_law_checked_0)] "InvalidBall" = h_law_checked_0 := by rfl
      rw [hs]
      have e1 : ∀ b, pIsE 3 a b [.dat T, .dat G, .dat (.bl m), .pin (.ref a)] = .ok (.bl b) := fun b => by unfold pIsE; simp
      unfold h_law_checked_0
      simp (disch := first | assumption | omega) [-List.map_map, -fLen_lst, -tru_lst, pSeq, pSet, pSetO, pWith, pBin, pV, pVo, pC, pCall, pCons, pNil, pTup, pLst, pUn, pIf, pIfS, pRet, pDrop, pAsg, pPar, pAug, pApp, pFrz, frzE, pB, pTr, pNot, pAnd, pOr, pAndV, pOrV, pNotV, pNotT, pChain, pNext, pFn, arity, pIter, pFor, pRg1, pRg2, pSl, pNo, pPart, pWhile, fuelI, pIsi, pIsiT, tyN, isiOk, isiB, isiAny, qStm, qFld, qPut, qKeep, qRest, pEnum2, enumOf, enumD, sz_eq, pDPutT, dKeys, dKey, pBestD, pIsC_eq, wipeE, pMeth_eq, List.getElem?_cons_zero, List.getElem?_cons_succ, e1, wipeFl, ix]
  unfold f_law_checked runF p_law_checked
  simp (disch := first | assumption | omega) [-List.map_map, -fLen_lst, -tru_lst, pSeq, pSet, pSetO, pWith, pBin, pV, pVo, pC, pCall, pCons, pNil, pTup, pLst, pUn, pIf, pIfS, pRet, pDrop, pAsg, pPar, pAug, pApp, pFrz, frzE, pB, pTr, pNot, pAnd, pOr, pAndV, pOrV, pNotV, pNotT, pChain, pNext, pFn, arity, pIter, pFor, pRg1, pRg2, pSl, pNo, pPart, pWhile, fuelI, pIsi, pIsiT, tyN, isiOk, isiB, isiAny, qStm, qFld, qPut, qKeep, qRest, pEnum2, enumOf, enumD, sz_eq, pDPutT, dKeys, dKey, pBestD, pIsC_eq, wipeE, pMeth_eq, List.getElem?_cons_zero, List.getElem?_cons_succ, tr]
end DL
end

section
set_option linter.all false
set_option maxRecDepth 100000
set_option maxHeartbeats 4000000
set_option exponentiation.threshold 2000
namespace DL
open PySem L2
local macro_rules | `(tactic| walk_at "dm") => `(tactic| simp (disch := first | assumption | omega) [-List.map_map, pSeq, pSet, pSetO, pWith, pBin, pV, pVo, pC, pCall, pCons, pNil, pTup, pLst, pUn, pIf, pIfS, pRet, pDrop, pAsg, pPar, pAug, pApp, pFrz, frzE, pB, pTr, pNot, pAnd, pOr, pAndV, pOrV, pNotV, pNotT, pChain, pNext, pFn, arity, pIter, pFor, pRg1, pRg2, pSl, pNo, pPart, pWhile, fuelI, pIsi, pIsiT, tyN, isiOk, isiB, isiAny, qStm, qFld, qPut, qKeep, qRest, pEnum2, enumOf, enumD, sz_eq, pDPutT, dKeys, dKey, pBestD, pIsC_eq, wipeE, pMeth_eq, List.getElem?_cons_zero, List.getElem?_cons_succ, *])
/-! ## the law -/
def nq (k : Nat) : Str := ("q" : Str) ++ ((toString (k : Int) : String) : Str) ++ ("q" : Str)
theorem nq_ok : ∀ k : Nat, k < 13 → nameM (nq k) = true := by decide +kernel
theorem nq_nd : ((List.range 13).map nq).Nodup := by decide +kernel
theorem nq_sz : ∀ k : Nat, k < 13 → ((toString (k : Int) : String) : Str).cps.size ≤ 2 := by decide +kernel
def bNm (b : Ball) (t : Str) : Ball := ⟨t, b.x, b.y, b.dx, b.dy, b.m⟩
theorem bNm_fit {w h : Int} {b : Ball} (f : Fit w h b) {t : Str} (ht : nameM t = true) : Fit w h (bNm b t) := ⟨ht, f.x0, f.x1, f.y0, f.y1, f.m0, f.m1, f.dx, f.dy, f.nz⟩
theorem bNm_add (b : Ball) (t : Str) : fAdd (.tup [.str t]) (.tup [.int b.x, .int b.y, .int b.dx, .int b.dy, .int b.m]) = .ok (blD (bNm b t)) := fAdd_tups (by simp) (by simp)
theorem bl_rest (b : Ball) : fSl (blD b) (some 1) none = .ok (.tup [.int b.x, .int b.y, .int b.dx, .int b.dy, .int b.m]) := by rfl
theorem fAdd_s {x y : Str} (h : x.cps.size + y.cps.size ≤ 1000) : fAdd (.str x) (.str y) = .ok (.str (x ++ y)) := by
  show (if x.length + y.length ≤ sizeLine then Rs.ok (D.str (x ++ y)) else .no) = _
  rw [if_pos (by rw [sizeLine_eq]; show x.cps.size + y.cps.size ≤ _; omega)]
theorem ren_nd {bs : List Ball} (b : Ball) {ns : List Str} (nd : ns.Nodup) : ((ns.map (bNm b)).map (·.t)).Nodup := by
  rw [List.map_map]
  have : ((fun x : Ball => x.t) ∘ bNm b) = id := rfl
  rw [this, List.map_id]; exact nd
theorem q14_is (SC N P BS BD K : D) (w h at_ n : Int) (pk : D) (b : Ball) (f : Fit w h b) (z5 z11 : EV) : q14_law_0 [.dat SC, .dat N, .dat P, .dat (tabP w h pk), .dat BS, z5, .dat (blD b), .dat (.int n), .dat BD, .dat K, .dat (.int at_), z11, .unb, .unb, .unb] = .rt (.bl true) := by
  have r := bl_rest b
  have a1 := bNm_add b "qa"
  have a2 := bNm_add b "qab"
  have a3 := bNm_add b "q"
  have c1 := chk_many (check_balls_is w h pk [bNm b "qa", bNm b "qab", bNm b "q"] ⟨fun c hc => by
    simp only [List.mem_cons, List.not_mem_nil, or_false] at hc
    rcases hc with rfl | rfl | rfl
    · exact bNm_fit f (by decide +kernel)
    · exact bNm_fit f (by decide +kernel)
    · exact bNm_fit f (by decide +kernel), ren_nd (bs := []) b (ns := ["qa", "qab", "q"]) (by decide +kernel), by simp⟩)
  have c1 : f_law_checked [tabP w h pk, .lst [blD (bNm b "qa"), blD (bNm b "qab"), blD (bNm b "q")], .bl true] = .ok (.bl true) := c1
  have nb : fIsNotB (.bl true) (.bl true) = .ok (.bl false) := rfl
  have ib : fIsB (.bl true) (.bl true) = .ok (.bl true) := rfl
  have ns := @fNe_strr "invalid"
  have lc1 := pLc_mapT (ps := pRg1 (pCons (pC (.int 13)) pNil)) (g := gN 13) (pe := e_law_1) (vs := [13]) (ρ := [.dat SC, .dat N, .dat P, .dat (tabP w h pk), .dat BS, z5, .dat (blD b), .dat (.int n), .dat BD, .dat K, .dat (.int at_), z11, .unb, .unb, .unb]) (xs := List.range 13) (fun (k : Nat) => D.int (k : Int)) .str nq (by rfl) (le_sz (by decide)) (fun k hk => ⟨_, rfl, by
    have hk := List.mem_range.mp hk
    have sz := nq_sz k hk
    have st : fStr [.int (k : Int)] = .ok (.str ((toString (k : Int) : String) : Str)) := by
      show (if ((k : Int)).natAbs.log2 < 1920 then Rs.ok (D.str ((toString (k : Int) : String) : Str)) else .no) = _
      rw [if_pos (log2_lt (k := 1920) (Nat.lt_of_lt_of_le (m := 13) (by omega) (by decide +kernel)) (by decide))]
    have s1 := fAdd_s (x := "q") (y := ((toString (k : Int) : String) : Str)) (by
      have : ("q" : Str).cps.size = 1 := by decide +kernel
      omega)
    have s2 := fAdd_s (x := ("q" : Str) ++ ((toString (k : Int) : String) : Str)) (y := "q") (by
      have e1 : ("q" : Str).cps.size = 1 := by decide +kernel
      have e2 : (("q" : Str) ++ ((toString (k : Int) : String) : Str)).cps.size = ("q" : Str).cps.size + ((toString (k : Int) : String) : Str).cps.size := strLen_append _ _
      omega)
    unfold nq
    generalize ((toString (k : Int) : String) : Str) = S at *
    generalize ("q" : Str) ++ S ++ "q" = S2 at *
    generalize ("q" : Str) ++ S = S1 at *
    generalize tabP w h pk = TT at *
    generalize blD b = B at *
    unfold e_law_1
    simp (disch := first | assumption | omega) [-List.map_map, -fLen_lst, -tru_lst, pSeq, pSet, pSetO, pWith, pBin, pV, pVo, pC, pCall, pCons, pNil, pTup, pLst, pUn, pIf, pIfS, pRet, pDrop, pAsg, pPar, pAug, pApp, pFrz, frzE, pB, pTr, pNot, pAnd, pOr, pAndV, pOrV, pNotV, pNotT, pChain, pNext, pFn, arity, pIter, pFor, pRg1, pRg2, pSl, pNo, pPart, pWhile, fuelI, pIsi, pIsiT, tyN, isiOk, isiB, isiAny, qStm, qFld, qPut, qKeep, qRest, pEnum2, enumOf, enumD, sz_eq, pDPutT, dKeys, dKey, pBestD, pIsC_eq, wipeE, pMeth_eq, List.getElem?_cons_zero, List.getElem?_cons_succ, st, s1, s2]⟩)
  have ren : ∀ (ns : List Str) (NM : D) (z13 z14 : EV) (ps : Ev → Rs (List D)) , ps [.dat SC, .dat N, .dat P, .dat (tabP w h pk), .dat BS, z5, .dat (blD b), .dat (.int n), .dat BD, .dat K, .dat (.int at_), z11, .dat NM, z13, z14] = .ok (ns.map .str) → ns.length ≤ 100 → pLc ps (gN 14) pYes e_law_2 [14] [.dat SC, .dat N, .dat P, .dat (tabP w h pk), .dat BS, z5, .dat (blD b), .dat (.int n), .dat BD, .dat K, .dat (.int at_), z11, .dat NM, z13, z14] = .ok (.lst ((ns.map (bNm b)).map blD)) := fun ns NM z13 z14 ps hps hl =>
    pLc_mapT (xs := ns) .str blD (bNm b) hps (le_sz (by omega)) (fun t _ => ⟨_, rfl, by
      have ad := bNm_add b t
      generalize tabP w h pk = TT at *
      generalize blD (bNm b t) = B2 at *
      generalize blD b = B at *
      unfold e_law_2
      simp (disch := first | assumption | omega) [-List.map_map, -fLen_lst, -tru_lst, pSeq, pSet, pSetO, pWith, pBin, pV, pVo, pC, pCall, pCons, pNil, pTup, pLst, pUn, pIf, pIfS, pRet, pDrop, pAsg, pPar, pAug, pApp, pFrz, frzE, pB, pTr, pNot, pAnd, pOr, pAndV, pOrV, pNotV, pNotT, pChain, pNext, pFn, arity, pIter, pFor, pRg1, pRg2, pSl, pNo, pPart, pWhile, fuelI, pIsi, pIsiT, tyN, isiOk, isiB, isiAny, qStm, qFld, qPut, qKeep, qRest, pEnum2, enumOf, enumD, sz_eq, pDPutT, dKeys, dKey, pBestD, pIsC_eq, wipeE, pMeth_eq, List.getElem?_cons_zero, List.getElem?_cons_succ, r, ad]⟩)
  have l2 := ren ((List.range 13).map nq) (.lst (((List.range 13).map nq).map .str)) .unb .unb (pIter (pV 12)) rfl (by simp)
  have sl : fSl (.lst (((List.range 13).map nq).map .str)) none (some 12) = .ok (.lst (((List.range 12).map nq).map .str)) := by
    rw [fSl_lst, show (12 : Int) = ((12 : Nat) : Int) from rfl, cutD_take, ← List.map_take, ← List.map_take]; rfl
  have l3 := ren ((List.range 12).map nq) (.lst (((List.range 13).map nq).map .str)) .unb .unb (pIter (pSl fSl (pV 12) pNo (pPart (pC (.int 12))))) (by
    generalize ((List.range 13).map nq).map D.str = N13 at *
    generalize ((List.range 12).map nq).map D.str = N12 at *
    generalize tabP w h pk = TT at *
    generalize blD b = B at *
    clear lc1 ren l2
    simp (disch := first | assumption | omega) [-List.map_map, -fLen_lst, -tru_lst, pSeq, pSet, pSetO, pWith, pBin, pV, pVo, pC, pCall, pCons, pNil, pTup, pLst, pUn, pIf, pIfS, pRet, pDrop, pAsg, pPar, pAug, pApp, pFrz, frzE, pB, pTr, pNot, pAnd, pOr, pAndV, pOrV, pNotV, pNotT, pChain, pNext, pFn, arity, pIter, pFor, pRg1, pRg2, pSl, pNo, pPart, pWhile, fuelI, pIsi, pIsiT, tyN, isiOk, isiB, isiAny, qStm, qFld, qPut, qKeep, qRest, pEnum2, enumOf, enumD, sz_eq, pDPutT, dKeys, dKey, pBestD, pIsC_eq, wipeE, pMeth_eq, List.getElem?_cons_zero, List.getElem?_cons_succ, sl]) (by simp)
  have l3 : pLc (pIter (pSl fSl (pV 12) pNo (pPart (pC (.int 12))))) (gN 14) pYes e_law_3 [14] [.dat SC, .dat N, .dat P, .dat (tabP w h pk), .dat BS, z5, .dat (blD b), .dat (.int n), .dat BD, .dat K, .dat (.int at_), z11, .dat (.lst (((List.range 13).map nq).map .str)), .unb, .unb] = _ := l3
  have fitn : ∀ m : Nat, m ≤ 13 → ∀ c ∈ ((List.range m).map nq).map (bNm b), Fit w h c := fun m hm c hc => by
    obtain ⟨t, ht, rfl⟩ := List.mem_map.mp hc
    obtain ⟨k, hk, rfl⟩ := List.mem_map.mp ht
    exact bNm_fit f (nq_ok k (by have := List.mem_range.mp hk; omega))
  have c2 := chk_no (m := true) (check_many (pk := pk) (((List.range 13).map nq).map (bNm b)) (fitn 13 (by decide)) (ren_nd (bs := []) b nq_nd) (by simp) (by simp))
  have c3 := chk_many (check_balls_is w h pk (((List.range 12).map nq).map (bNm b)) ⟨fitn 12 (by decide), ren_nd (bs := []) b (by
    have : (List.range 12).map nq = ((List.range 13).map nq).take 12 := by rw [← List.map_take]; rfl
    rw [this]; exact (List.take_sublist 12 _).nodup nq_nd), by simp⟩)
  clear ren fitn sl
  generalize (((List.range 13).map nq).map (bNm b)).map blD = L13 at *
  generalize (((List.range 12).map nq).map (bNm b)).map blD = L12 at *
  generalize ((List.range 13).map nq).map D.str = N13 at *
  generalize blD (bNm b "qa") = QA at *
  generalize blD (bNm b "qab") = QAB at *
  generalize blD (bNm b "q") = Q at *
  generalize tabP w h pk = TT at *
  generalize blD b = B at *
  unfold q14_law_0
  simp (disch := first | assumption | omega) [-List.map_map, -fLen_lst, -tru_lst, pSeq, pSet, pSetO, pWith, pBin, pV, pVo, pC, pCall, pCons, pNil, pTup, pLst, pUn, pIf, pIfS, pRet, pDrop, pAsg, pPar, pAug, pApp, pFrz, frzE, pB, pTr, pNot, pAnd, pOr, pAndV, pOrV, pNotV, pNotT, pChain, pNext, pFn, arity, pIter, pFor, pRg1, pRg2, pSl, pNo, pPart, pWhile, fuelI, pIsi, pIsiT, tyN, isiOk, isiB, isiAny, qStm, qFld, qPut, qKeep, qRest, pEnum2, enumOf, enumD, sz_eq, pDPutT, dKeys, dKey, pBestD, pIsC_eq, wipeE, pMeth_eq, List.getElem?_cons_zero, List.getElem?_cons_succ, r, a1, a2, a3, c1, nb, lc1, l2, c2, ns, l3, c3, ib]
theorem q10_is (SC N P : D) (w h n z272 : Int) (pk : D) (bs : List Ball) (b : Ball) (BD : D) (f : ∀ c ∈ bs, Fit w h c) (nd : (bs.map (·.t)).Nodup) (fb : Fit w h b) (hl : bs.length ≤ 12) (hbad : f_is_ball [tabP w h pk, BD] = .ok (.bl false)) (i272 : fIx N (.int 272) = .ok (.int z272)) (n0 : 0 ≤ n) (y272 : 0 ≤ z272) (z5 : EV) :
    q10_law_0 [.dat SC, .dat N, .dat P, .dat (tabP w h pk), .dat (.lst (bs.map blD)), z5, .dat (blD b), .dat (.int n), .dat BD, .unb, .unb, .unb, .unb, .unb, .unb] = .rt (.bl true) := by
  have b0 := @bl0 b
  have sl11 : fSl (.lst (bs.map blD)) none (some 11) = .ok (.lst ((bs.take 11).map blD)) := by
    rw [fSl_lst, show (11 : Int) = ((11 : Nat) : Int) from rfl, cutD_take, ← List.map_take]
  obtain ⟨K, hK⟩ : ∃ K, K = (bs.take 11).filter fun c => !decide (c.t = b.t) := ⟨_, rfl⟩
  have lc := pLc_filterT (ps := pIter (pSl fSl (pV 4) pNo (pPart (pC (.int 11))))) (g := gN 5) (pt := t_law_0) (pe := e_law_0) (vs := [5]) (ρ := [.dat SC, .dat N, .dat P, .dat (tabP w h pk), .dat (.lst (bs.map blD)), z5, .dat (blD b), .dat (.int n), .dat BD, .unb, .unb, .unb, .unb, .unb, .unb]) (xs := bs.take 11) blD blD (fun c => !decide (c.t = b.t)) id (by
    generalize (bs.take 11).map blD = B11 at *
    generalize bs.map blD = BS at *
    generalize tabP w h pk = TT at *
    generalize blD b = B at *
    simp (disch := first | assumption | omega) [-List.map_map, -fLen_lst, -tru_lst, pSeq, pSet, pSetO, pWith, pBin, pV, pVo, pC, pCall, pCons, pNil, pTup, pLst, pUn, pIf, pIfS, pRet, pDrop, pAsg, pPar, pAug, pApp, pFrz, frzE, pB, pTr, pNot, pAnd, pOr, pAndV, pOrV, pNotV, pNotT, pChain, pNext, pFn, arity, pIter, pFor, pRg1, pRg2, pSl, pNo, pPart, pWhile, fuelI, pIsi, pIsiT, tyN, isiOk, isiB, isiAny, qStm, qFld, qPut, qKeep, qRest, pEnum2, enumOf, enumD, sz_eq, pDPutT, dKeys, dKey, pBestD, pIsC_eq, wipeE, pMeth_eq, List.getElem?_cons_zero, List.getElem?_cons_succ, sl11]) (le_sz (by rw [List.length_take]; omega)) (fun c _ => ⟨_, rfl, by
    have c0 := @bl0 c
    have ne : fNe (.str c.t) (.str b.t) = .ok (.bl (!decide (c.t = b.t))) := rfl
    generalize bs.map blD = BS at *
    generalize tabP w h pk = TT at *
    generalize blD b = B at *
    generalize blD c = C at *
    unfold t_law_0
    simp (disch := first | assumption | omega) [-List.map_map, -fLen_lst, -tru_lst, pSeq, pSet, pSetO, pWith, pBin, pV, pVo, pC, pCall, pCons, pNil, pTup, pLst, pUn, pIf, pIfS, pRet, pDrop, pAsg, pPar, pAug, pApp, pFrz, frzE, pB, pTr, pNot, pAnd, pOr, pAndV, pOrV, pNotV, pNotT, pChain, pNext, pFn, arity, pIter, pFor, pRg1, pRg2, pSl, pNo, pPart, pWhile, fuelI, pIsi, pIsiT, tyN, isiOk, isiB, isiAny, qStm, qFld, qPut, qKeep, qRest, pEnum2, enumOf, enumD, sz_eq, pDPutT, dKeys, dKey, pBestD, pIsC_eq, wipeE, pMeth_eq, List.getElem?_cons_zero, List.getElem?_cons_succ, c0, b0, ne], fun _ => rfl⟩)
  rw [List.map_id, ← hK] at lc
  have fK : ∀ c ∈ K, Fit w h c := fun c hc => f c (List.mem_of_mem_take (List.mem_filter.mp (hK ▸ hc)).1)
  have sub : K.Sublist bs := by rw [hK]; exact (List.filter_sublist).trans (List.take_sublist 11 bs)
  have ndK : (K.map (·.t)).Nodup := (sub.map _).nodup nd
  have lK : K.length ≤ 11 := by
    rw [hK]; exact Nat.le_trans (List.length_filter_le _ _) (by rw [List.length_take]; omega)
  have ln : fLen [.lst (K.map blD)] = .ok (.int (K.length : Int)) := by rw [fLen_lst, List.length_map]
  have a0 := Int.emod_nonneg z272 (show (K.length : Int) + 1 ≠ 0 by omega)
  have a1 := Int.emod_lt_of_pos z272 (show (0 : Int) < (K.length : Int) + 1 by omega)
  obtain ⟨p, hp⟩ : ∃ p : Nat, z272 % ((K.length : Int) + 1) = p := ⟨(z272 % ((K.length : Int) + 1)).toNat, by omega⟩
  have m1 : fMod (.int z272) (.int ((K.length : Int) + 1)) = .ok (.int (p : Int)) := by rw [← hp]; exact fMod_ok (by omega)
  have s1 : fSl (.lst (K.map blD)) none (some (p : Int)) = .ok (.lst ((K.take p).map blD)) := by rw [fSl_lst, cutD_take, ← List.map_take]
  have s2 : fSl (.lst (K.map blD)) (some (p : Int)) none = .ok (.lst ((K.drop p).map blD)) := by rw [fSl_lst, cutD_drop, ← List.map_drop]
  have lt : (K.take p).length ≤ 11 := by rw [List.length_take]; omega
  have ld : (K.drop p).length ≤ 11 := by rw [List.length_drop]; omega
  have ad : ∀ X : D, fAdd (.lst ((K.take p).map blD)) (.lst [X]) = .ok (.lst ((K.take p).map blD ++ [X])) := fun X => by
    show (if ((K.take p).map blD).length + [X].length ≤ sizeLine then Rs.ok (D.lst _) else .no) = _
    rw [sz_eq, if_pos (by rw [List.length_map]; simp; omega)]
  have ad2 : ∀ X : D, fAdd (.lst ((K.take p).map blD ++ [X])) (.lst ((K.drop p).map blD)) = .ok (.lst ((K.take p).map blD ++ X :: (K.drop p).map blD)) := fun X => by
    show (if ((K.take p).map blD ++ [X]).length + ((K.drop p).map blD).length ≤ sizeLine then Rs.ok (D.lst (((K.take p).map blD ++ [X]) ++ (K.drop p).map blD)) else .no) = _
    rw [sz_eq, if_pos (by rw [List.length_append, List.length_map, List.length_map]; simp; omega), List.append_assoc]; rfl
  have bad := chk_no (m := true) (check_bad (pk := pk) (K.take p) BD ((K.drop p).map blD) (fun c hc => fK c (List.mem_of_mem_take hc)) (((List.take_sublist p K).map _).nodup ndK) (by omega) (no_check hbad))
  have ns := @fNe_strr "invalid"
  have r := bl_rest b
  by_cases q : 0 < K.length
  · have q' : (0 : Int) < (K.length : Int) := by omega
    have r0 := Int.emod_nonneg n (show (K.length : Int) ≠ 0 by omega)
    have r1 := Int.emod_lt_of_pos n q'
    have hj : (n % (K.length : Int)).toNat < K.length := by omega
    obtain ⟨c, hc⟩ : ∃ c, K[(n % (K.length : Int)).toNat]? = some c := ⟨_, List.getElem?_eq_getElem hj⟩
    have ck : c ∈ K := List.mem_of_getElem? hc
    have ix : fIx (.lst (K.map blD)) (.int (n % (K.length : Int))) = .ok (blD c) := fIx_lst r0 (by rw [List.getElem?_map, hc]; rfl)
    have mn : fMod (.int n) (.int (K.length : Int)) = .ok (.int (n % (K.length : Int))) := fMod_ok q'
    have c0 := @bl0 c
    have dn := bNm_add b c.t
    have dl : (K.take p).map blD ++ blD (bNm b c.t) :: (K.drop p).map blD = (K.take p ++ bNm b c.t :: K.drop p).map blD := by rw [List.map_append]; rfl
    have dup := chk_no (m := true) (check_dup (pk := pk) (K.take p ++ bNm b c.t :: K.drop p) (fun x hx => by
      rcases List.mem_append.mp hx with hx | hx
      · exact fK x (List.mem_of_mem_take hx)
      · rcases List.mem_cons.mp hx with rfl | hx
        · exact bNm_fit fb (fK c ck).nm
        · exact fK x (List.mem_of_mem_drop hx)) (fun z => by
      rw [List.map_append, List.map_cons, List.nodup_append, List.nodup_cons] at z
      have cm : c ∈ K.take p ++ K.drop p := by rw [List.take_append_drop]; exact ck
      rcases List.mem_append.mp cm with u | u
      · exact z.2.2 c.t (List.mem_map.mpr ⟨c, u, rfl⟩) c.t List.mem_cons_self rfl
      · exact z.2.1.1 (List.mem_map.mpr ⟨c, u, rfl⟩)) (by rw [List.length_append, List.length_cons]; omega))
    rw [← dl] at dup
    have q14 := q14_is SC N P (.lst (bs.map blD)) BD (.lst (K.map blD)) w h p n pk b fb z5 (.dat (blD (bNm b c.t)))
    have e1 := ad BD; have e2 := ad2 BD
    have e3 := ad (blD (bNm b c.t)); have e4 := ad2 (blD (bNm b c.t))
    clear ad ad2 fK ndK sub hK f nd fb hp hc ck lt ld hj dl a0 a1 r0 r1 hbad
    generalize (K.take p).map blD ++ BD :: (K.drop p).map blD = L1 at *
    generalize (K.take p).map blD ++ blD (bNm b c.t) :: (K.drop p).map blD = L2 at *
    generalize (K.take p).map blD ++ [BD] = L3 at *
    generalize (K.take p).map blD ++ [blD (bNm b c.t)] = L4 at *
    generalize (K.take p).map blD = L5 at *
    generalize (K.drop p).map blD = L6 at *
    generalize K.map blD = KD at *
    generalize bs.map blD = BS at *
    generalize tabP w h pk = TT at *
    generalize blD (bNm b c.t) = B2 at *
    generalize blD c = C at *
    generalize blD b = B at *
    generalize (K.length : Int) = kl at *
    generalize (p : Int) = pp at *
    unfold q10_law_0
    simp (disch := first | assumption | omega) [-List.map_map, -fLen_lst, -tru_lst, pSeq, pSet, pSetO, pWith, pBin, pV, pVo, pC, pCall, pCons, pNil, pTup, pLst, pUn, pIf, pIfS, pRet, pDrop, pAsg, pPar, pAug, pApp, pFrz, frzE, pB, pTr, pNot, pAnd, pOr, pAndV, pOrV, pNotV, pNotT, pChain, pNext, pFn, arity, pIter, pFor, pRg1, pRg2, pSl, pNo, pPart, pWhile, fuelI, pIsi, pIsiT, tyN, isiOk, isiB, isiAny, qStm, qFld, qPut, qKeep, qRest, pEnum2, enumOf, enumD, sz_eq, pDPutT, dKeys, dKey, pBestD, pIsC_eq, wipeE, pMeth_eq, List.getElem?_cons_zero, List.getElem?_cons_succ, lc, i272, ln, m1, s1, e1, s2, e2, bad, ns, q', mn, ix, c0, r, dn, e3, e4, dup, q14]
  · have q' : ¬ (0 : Int) < (K.length : Int) := by omega
    have q14 := q14_is SC N P (.lst (bs.map blD)) BD (.lst (K.map blD)) w h p n pk b fb z5 .unb
    have e1 := ad BD; have e2 := ad2 BD
    clear ad ad2 fK ndK sub hK f nd fb hp lt ld a0 a1 hbad
    generalize (K.take p).map blD ++ BD :: (K.drop p).map blD = L1 at *
    generalize (K.take p).map blD ++ [BD] = L3 at *
    generalize (K.take p).map blD = L5 at *
    generalize (K.drop p).map blD = L6 at *
    generalize K.map blD = KD at *
    generalize bs.map blD = BS at *
    generalize tabP w h pk = TT at *
    generalize blD b = B at *
    generalize (K.length : Int) = kl at *
    generalize (p : Int) = pp at *
    unfold q10_law_0
    simp (disch := first | assumption | omega) [-List.map_map, -fLen_lst, -tru_lst, pSeq, pSet, pSetO, pWith, pBin, pV, pVo, pC, pCall, pCons, pNil, pTup, pLst, pUn, pIf, pIfS, pRet, pDrop, pAsg, pPar, pAug, pApp, pFrz, frzE, pB, pTr, pNot, pAnd, pOr, pAndV, pOrV, pNotV, pNotT, pChain, pNext, pFn, arity, pIter, pFor, pRg1, pRg2, pSl, pNo, pPart, pWhile, fuelI, pIsi, pIsiT, tyN, isiOk, isiB, isiAny, qStm, qFld, qPut, qKeep, qRest, pEnum2, enumOf, enumD, sz_eq, pDPutT, dKeys, dKey, pBestD, pIsC_eq, wipeE, pMeth_eq, List.getElem?_cons_zero, List.getElem?_cons_succ, lc, i272, ln, m1, s1, e1, s2, e2, bad, ns, q', q14]
end DL
end

section
set_option linter.all false
set_option maxRecDepth 100000
set_option maxHeartbeats 4000000
set_option exponentiation.threshold 2000
namespace DL
open PySem L2
local macro_rules | `(tactic| walk_at "dm") => `(tactic| simp (disch := first | assumption | omega) [-List.map_map, pSeq, pSet, pSetO, pWith, pBin, pV, pVo, pC, pCall, pCons, pNil, pTup, pLst, pUn, pIf, pIfS, pRet, pDrop, pAsg, pPar, pAug, pApp, pFrz, frzE, pB, pTr, pNot, pAnd, pOr, pAndV, pOrV, pNotV, pNotT, pChain, pNext, pFn, arity, pIter, pFor, pRg1, pRg2, pSl, pNo, pPart, pWhile, fuelI, pIsi, pIsiT, tyN, isiOk, isiB, isiAny, qStm, qFld, qPut, qKeep, qRest, pEnum2, enumOf, enumD, sz_eq, pDPutT, dKeys, dKey, pBestD, pIsC_eq, wipeE, pMeth_eq, List.getElem?_cons_zero, List.getElem?_cons_succ, *])
theorem loop04 (SC N P BS : D) (w h : Int) (pk : D) (z6 z7 z8 : EV) : ∀ (bs : List Ball) (z5 : EV), (∀ c ∈ bs, Fit w h c) → ∃ y5, forL (gN 5) l_law_0 (bs.map blD) [.dat SC, .dat N, .dat P, .dat (tabP w h pk), .dat BS, z5, .unb, .unb, .unb, .unb, .unb, .unb, .unb, .unb, .unb] = .nx [.dat SC, .dat N, .dat P, .dat (tabP w h pk), .dat BS, y5, .unb, .unb, .unb, .unb, .unb, .unb, .unb, .unb, .unb]
  | [], z5, _ => ⟨z5, rfl⟩
  | b :: bs, z5, hf => by
    have f := hf b List.mem_cons_self
    have ib : f_is_ball [tabP w h pk, blD b] = .ok (.bl true) := by
      rw [is_ball_is w h pk b (nameM_len f.nm), ballM_iff.mpr f]
    have ck := chk_one (ck_ok (pk := pk) f)
    have nb : fIsNotB (.bl true) (.bl true) = .ok (.bl false) := rfl
    have st : l_law_0 [.dat SC, .dat N, .dat P, .dat (tabP w h pk), .dat BS, .dat (blD b), .unb, .unb, .unb, .unb, .unb, .unb, .unb, .unb, .unb] = .nx [.dat SC, .dat N, .dat P, .dat (tabP w h pk), .dat BS, .dat (blD b), .unb, .unb, .unb, .unb, .unb, .unb, .unb, .unb, .unb] := by
      clear f hf
      generalize tabP w h pk = TT at *
      generalize blD b = B at *
      unfold l_law_0
      simp (disch := first | assumption | omega) [-List.map_map, -fLen_lst, -tru_lst, pSeq, pSet, pSetO, pWith, pBin, pV, pVo, pC, pCall, pCons, pNil, pTup, pLst, pUn, pIf, pIfS, pRet, pDrop, pAsg, pPar, pAug, pApp, pFrz, frzE, pB, pTr, pNot, pAnd, pOr, pAndV, pOrV, pNotV, pNotT, pChain, pNext, pFn, arity, pIter, pFor, pRg1, pRg2, pSl, pNo, pPart, pWhile, fuelI, pIsi, pIsiT, tyN, isiOk, isiB, isiAny, qStm, qFld, qPut, qKeep, qRest, pEnum2, enumOf, enumD, sz_eq, pDPutT, dKeys, dKey, pBestD, pIsC_eq, wipeE, pMeth_eq, List.getElem?_cons_zero, List.getElem?_cons_succ, ib, ck, nb]
    obtain ⟨y5, e⟩ := loop04 SC N P BS w h pk z6 z7 z8 bs (.dat (blD b)) (fun c hc => hf c (List.mem_cons_of_mem _ hc))
    refine ⟨y5, ?_⟩
    rw [List.map_cons, forL_step (ρ1 := [.dat SC, .dat N, .dat P, .dat (tabP w h pk), .dat BS, .dat (blD b), .unb, .unb, .unb, .unb, .unb, .unb, .unb, .unb, .unb]) rfl st, e]
theorem head04 (SC N P TT BS FB BD : D) (BL : List D) (w h z149 many n z271 : Int) (y5 : EV) (PL : D) (hP : P = .lst [.int w, .int h, PL]) (hBS : BS = .lst BL) (e0 : f_law_numbers [SC, .int 300] = .ok N) (ep : f_law_parts [N] = .ok P) (em : f_law_made [P] = .ok TT) (i149 : fIx N (.int 149) = .ok (.int z149)) (ec : f_law_count [.int z149, .int 12] = .ok (.int many)) (eb : f_law_balls [N, .int 150, .int w, .int h, .int many] = .ok BS)
    (ck : f_law_checked [TT, BS, .bl true] = .ok (.bl true)) (lp : forL (gN 5) l_law_0 BL [.dat SC, .dat N, .dat P, .dat TT, .dat BS, .unb, .unb, .unb, .unb, .unb, .unb, .unb, .unb, .unb, .unb] = .nx [.dat SC, .dat N, .dat P, .dat TT, .dat BS, y5, .unb, .unb, .unb, .unb, .unb, .unb, .unb, .unb, .unb])
    (ef : f_law_balls [N, .int 260, .int w, .int h, .int 1] = .ok (.lst [FB])) (i270 : fIx N (.int 270) = .ok (.int n)) (i271 : fIx N (.int 271) = .ok (.int z271)) (es : f_law_spoilt [TT, FB, .int (z271 % 7), .int n] = .ok BD) (nb : f_is_ball [TT, BD] = .ok (.bl false)) (cb : f_law_checked [TT, BD, .bl false] = .ok (.str "invalid"))
    (q : q10_law_0 [.dat SC, .dat N, .dat P, .dat TT, .dat BS, y5, .dat FB, .dat (.int n), .dat BD, .unb, .unb, .unb, .unb, .unb, .unb] = .rt (.bl true)) : f_law [SC] = .ok (.bl true) := by
  have x0 : fIx P (.int 0) = .ok (.int w) := by rw [hP]; exact fIx_lst (by decide) rfl
  have x1 : fIx P (.int 1) = .ok (.int h) := by rw [hP]; exact fIx_lst (by decide) rfl
  have f0 : fIx (.lst [FB]) (.int 0) = .ok FB := fIx_lst (by decide) rfl
  have n1 : fIsNotB (.bl true) (.bl true) = .ok (.bl false) := rfl
  have n2 : fIsNotB (.bl false) (.bl false) = .ok (.bl false) := rfl
  have ns := @fNe_strr "invalid"
  have m7 : fMod (.int z271) (.int 7) = .ok (.int (z271 % 7)) := fMod_ok (by decide)
  have it : iterD BS = some BL := by rw [hBS]; rfl
  clear hP hBS
  have q6 : q6_law_0 [.dat SC, .dat N, .dat P, .dat TT, .dat BS, y5, .unb, .unb, .unb, .unb, .unb, .unb, .unb, .unb, .unb] = .rt (.bl true) := by
    unfold q6_law_0
    simp (disch := first | assumption | omega) [-List.map_map, -fLen_lst, -tru_lst, pSeq, pSet, pSetO, pWith, pBin, pV, pVo, pC, pCall, pCons, pNil, pTup, pLst, pUn, pIf, pIfS, pRet, pDrop, pAsg, pPar, pAug, pApp, pFrz, frzE, pB, pTr, pNot, pAnd, pOr, pAndV, pOrV, pNotV, pNotT, pChain, pNext, pFn, arity, pIter, pFor, pRg1, pRg2, pSl, pNo, pPart, pWhile, fuelI, pIsi, pIsiT, tyN, isiOk, isiB, isiAny, qStm, qFld, qPut, qKeep, qRest, pEnum2, enumOf, enumD, sz_eq, pDPutT, dKeys, dKey, pBestD, pIsC_eq, wipeE, pMeth_eq, List.getElem?_cons_zero, List.getElem?_cons_succ, x0, x1, ef, f0, i270, i271, m7, es, nb, cb, n2, ns, q]
  clear q
  unfold f_law runF p_law
  simp (disch := first | assumption | omega) [-List.map_map, -fLen_lst, -tru_lst, pSeq, pSet, pSetO, pWith, pBin, pV, pVo, pC, pCall, pCons, pNil, pTup, pLst, pUn, pIf, pIfS, pRet, pDrop, pAsg, pPar, pAug, pApp, pFrz, frzE, pB, pTr, pNot, pAnd, pOr, pAndV, pOrV, pNotV, pNotT, pChain, pNext, pFn, arity, pIter, pFor, pRg1, pRg2, pSl, pNo, pPart, pWhile, fuelI, pIsi, pIsiT, tyN, isiOk, isiB, isiAny, qStm, qFld, qPut, qKeep, qRest, pEnum2, enumOf, enumD, sz_eq, pDPutT, dKeys, dKey, pBestD, pIsC_eq, wipeE, pMeth_eq, List.getElem?_cons_zero, List.getElem?_cons_succ, e0, ep, em, x0, x1, i149, ec, eb, ck, n1, it, lp, q6]
theorem law_k04 (ns : List Int) (hn : ns.length ≤ 63) : f_law [.kl (ns.map .int)] = .ok (.bl true) := by
  obtain ⟨L, hL, hd, e0⟩ := law_numbers ns 300 (by decide) (by decide) hn
  obtain ⟨w, h, ps, w0, w1, h0, h1, hl, nd, hi, ep⟩ := parts_is hd (by omega)
  obtain ⟨c, pre, post, zz, no, en⟩ := law_name_is hd 8 (by decide) (by omega)
  obtain ⟨z149, _, _, i149⟩ := ixL (L := L) (i := 149) (by decide) (by omega) hd
  obtain ⟨many, mn0, mn1, ec⟩ := count_is z149 12 (by decide)
  obtain ⟨bs, b1, b2, eb⟩ := law_balls_big hd 150 many.toNat (by decide) (by omega) (by omega) w h (by omega) (by omega) (nmL c pre post zz) en (nm_name no zz)
  rw [show ((many.toNat : Nat) : Int) = many by omega] at eb
  have fit : ∀ x ∈ bs, Fit w h x := fun x hx => by
    obtain ⟨i, hi⟩ := List.getElem?_of_mem hx
    exact (b2 i x hi).2
  have nds : (bs.map (·.t)).Nodup := by
    have e : bs.map (·.t) = (List.range bs.length).map fun (k : Nat) => nmL c pre post zz (k : Int) := by
      apply List.ext_getElem?
      intro i
      rw [List.getElem?_map, List.getElem?_map]
      by_cases q : i < bs.length
      · rw [List.getElem?_eq_getElem q, List.getElem?_eq_getElem (by rw [List.length_range]; exact q), List.getElem_range]
        have := (b2 i bs[i] (List.getElem?_eq_getElem q)).1
        exact congrArg some this
      · rw [List.getElem?_eq_none (by omega), List.getElem?_eq_none (by rw [List.length_range]; omega)]; rfl
    rw [e]
    unfold List.Nodup
    rw [List.pairwise_map]
    refine List.Pairwise.imp_of_mem (fun {x y} hx hy ne z => ne ?_) (List.nodup_range (n := bs.length))
    have hx := List.mem_range.mp hx
    have hy := List.mem_range.mp hy
    have := nm_inj (by omega) (by omega) (by omega) (by omega) z
    omega
  obtain ⟨fs, f1, f2, ef⟩ := law_balls_big hd 260 1 (by decide) (by decide) (by omega) w h (by omega) (by omega) (nmL c pre post zz) en (nm_name no zz)
  obtain ⟨fb, rfl⟩ : ∃ b, fs = [b] := by
    match fs, f1 with
    | [b], _ => exact ⟨b, rfl⟩
  obtain ⟨ft, ff⟩ := f2 0 fb rfl
  obtain ⟨n, n0, _, i270⟩ := ixL (L := L) (i := 270) (by decide) (by omega) hd
  obtain ⟨z271, _, _, i271⟩ := ixL (L := L) (i := 271) (by decide) (by omega) hd
  obtain ⟨z272, y272, _, i272⟩ := ixL (L := L) (i := 272) (by decide) (by omega) hd
  have lno := no.ln
  obtain ⟨BD, es, nb⟩ := spoilt_is w h (.tup (ps.map cD)) fb ff (by omega) (by omega) _ ft (by simp) (by simp; omega) (z271 % 7) n (by omega) (by omega) n0
  have cb := chk_no (m := false) (no_check nb)
  have ck := chk_many (check_balls_is w h (.tup (ps.map cD)) bs ⟨fit, nds, by omega⟩)
  obtain ⟨y5, lp⟩ := loop04 (.kl (ns.map .int)) (.lst (dI L)) (.lst [.int w, .int h, .lst (ps.map cD)]) (.lst (bs.map blD)) w h (.tup (ps.map cD)) .unb .unb .unb bs .unb fit
  have q10 := q10_is (.kl (ns.map .int)) (.lst (dI L)) (.lst [.int w, .int h, .lst (ps.map cD)]) w h n z272 (.tup (ps.map cD)) bs fb BD fit nds ff (by omega) nb i272 n0 y272 y5
  exact head04 _ _ _ _ _ (blD fb) BD (bs.map blD) w h z149 many n z271 y5 (.lst (ps.map cD)) rfl rfl e0 ep (made_big w h ps w0 w1 h0 h1 hl nd hi) i149 ec eb ck lp ef i270 i271 es nb cb q10
end DL
end

section
set_option linter.all false
set_option maxRecDepth 100000
set_option maxHeartbeats 8000000
namespace DL
open PySem PySem.Spec L2
def top (i : Nat) : Stmt := PySem.Challenge.pw_cushioned_k04_balls.main.body.getD i (.Pass ⟨0, 0, 0, 0⟩)
abbrev s_require : Stmt := top 8
abbrev s_Table_is_point : Stmt := inClass (top 9) 1
abbrev s_Table_init : Stmt := inClass (top 9) 0
abbrev s_is_name : Stmt := top 14
abbrev s_is_ball : Stmt := top 15
abbrev s_check_ball : Stmt := top 16
abbrev s_check_balls : Stmt := top 17
abbrev s_law_row : Stmt := top 19
abbrev s_law_numbers : Stmt := top 20
abbrev s_law_big : Stmt := top 21
abbrev s_law_name : Stmt := top 22
abbrev s_law_points : Stmt := top 23
abbrev s_law_balls : Stmt := top 24
abbrev s_law_count : Stmt := top 25
abbrev s_law_parts : Stmt := top 26
abbrev s_law_made : Stmt := top 27
abbrev s_law_same : Stmt := top 28
abbrev s_law_bad_name : Stmt := top 29
abbrev s_law_checked : Stmt := top 30
abbrev s_law_spoilt : Stmt := top 31
abbrev s_law : Stmt := top 32
structure Txt (E : Am) (mg : Str → Option Value) : Prop where
  n_ValueError : mg "ValueError" = none
  n_abs : mg "abs" = none
  n_all : mg "all" = none
  n_enumerate : mg "enumerate" = none
  n_int : mg "int" = none
  n_isinstance : mg "isinstance" = none
  n_len : mg "len" = none
  n_list : mg "list" = none
  n_max : mg "max" = none
  n_min : mg "min" = none
  n_range : mg "range" = none
  n_str : mg "str" = none
  n_tuple : mg "tuple" = none
  c_MOST : Con mg E "MOST" c_MOST
  c_MOST_BALLS : Con mg E "MOST_BALLS" c_MOST_BALLS
  c_MOST_NAME_CHARS : Con mg E "MOST_NAME_CHARS" c_MOST_NAME_CHARS
  c_MOST_POCKETS : Con mg E "MOST_POCKETS" c_MOST_POCKETS
  c_NAME_CHARS : Con mg E "NAME_CHARS" c_NAME_CHARS
  g_CushionedError : mg "CushionedError" = some (.ref (E.cl "CushionedError"))
  g_InvalidBall : mg "InvalidBall" = some (.ref (E.cl "InvalidBall"))
  g_InvalidTable : mg "InvalidTable" = some (.ref (E.cl "InvalidTable"))
  g_Table : mg "Table" = some (.ref (E.cl "Table"))
  g_law_bad_name : mg "_law_bad_name" = some (.ref (E.cl "_law_bad_name"))
  g_law_balls : mg "_law_balls" = some (.ref (E.cl "_law_balls"))
  g_law_big : mg "_law_big" = some (.ref (E.cl "_law_big"))
  g_law_checked : mg "_law_checked" = some (.ref (E.cl "_law_checked"))
  g_law_count : mg "_law_count" = some (.ref (E.cl "_law_count"))
  g_law_made : mg "_law_made" = some (.ref (E.cl "_law_made"))
  g_law_name : mg "_law_name" = some (.ref (E.cl "_law_name"))
  g_law_numbers : mg "_law_numbers" = some (.ref (E.cl "_law_numbers"))
  g_law_parts : mg "_law_parts" = some (.ref (E.cl "_law_parts"))
  g_law_points : mg "_law_points" = some (.ref (E.cl "_law_points"))
  g_law_row : mg "_law_row" = some (.ref (E.cl "_law_row"))
  g_law_spoilt : mg "_law_spoilt" = some (.ref (E.cl "_law_spoilt"))
  g_check_ball : mg "check_ball" = some (.ref (E.cl "check_ball"))
  g_check_balls : mg "check_balls" = some (.ref (E.cl "check_balls"))
  g_is_ball : mg "is_ball" = some (.ref (E.cl "is_ball"))
  g_is_name : mg "is_name" = some (.ref (E.cl "is_name"))
  g_require : mg "require" = some (.ref (E.cl "require"))
  cls_Table : ClsOk E "Table" ["width", "height", "pockets"]
  m_Table_is_point : Meth E.K (E.cl "Table") "is_point" (He.ma E.K (E.cl "Table") "is_point")
  mk_Table : Mk E.K (E.cl "Table") (He.ma E.K (E.cl "Table") "__init__")
  df_Table_0 : repB E.K (.tup []) (.ref (He.dflAt ("Table", some "__init__") 0 E.K)) = true
  x_InvalidBall : ExcX E "InvalidBall"
  x_InvalidTable : ExcX E "InvalidTable"
  e_CushionedError_InvalidBall : PySem.W.exmOne E.K (.ref (E.cl "CushionedError")) (.ref (E.cl "InvalidBall")) = some false
  e_InvalidBall_InvalidBall : PySem.W.exmOne E.K (.ref (E.cl "InvalidBall")) (.ref (E.cl "InvalidBall")) = some true
  e_InvalidTable_InvalidBall : PySem.W.exmOne E.K (.ref (E.cl "InvalidTable")) (.ref (E.cl "InvalidBall")) = some false
  xi_InvalidBall : ExcC E.K (E.cl "InvalidBall")
  k_InvalidBall_CushionedError : PySem.W.kitOne E.K (.ref (E.cl "InvalidBall")) (.ref (E.cl "CushionedError")) = some true
  k_InvalidBall_InvalidTable : PySem.W.kitOne E.K (.ref (E.cl "InvalidBall")) (.ref (E.cl "InvalidTable")) = some false
  k_InvalidBall_ValueError : PySem.W.kitOne E.K (.ref (E.cl "InvalidBall")) (.type "ValueError") = some true
  inj0 : ∀ C C', List.lookup C ([("CushionedError", false), ("InvalidTable", false), ("InvalidBall", true)] : List (Str × Bool)) = some true → List.lookup C' ([("CushionedError", false), ("InvalidTable", false), ("InvalidBall", true)] : List (Str × Bool)) = some true → E.cl C = E.cl C' → C = C'
section
variable {P : Program} {w : World} {E : Am} {mg : Str → Option Value} {base : Heap}
theorem sc_require : FnScope ["holds"] ["holds"] (defScope s_require) := ⟨rfl, rfl, rfl, by decide +kernel, rfl, by decide +kernel, by decide +kernel⟩
theorem ok_require (T : Txt E mg) (hF : ∃ fd, FunD E.K "require" "require" (defArgs s_require) (defBody s_require) (defScope s_require) [] [] (E.cl "require") fd) : FnX P w E mg base 1 (E.cl "require") ["holds"] f_require := by
  obtain ⟨fd, F⟩ := hF
  have hB : Binds E.K fd ["holds"] [] := F.bindsN (fun _ _ _ _ _ _ us hl => match us, hl with | [_], _ => rfl)
  refine fnX_mk (m := 1) (k := 0) (p := p_require) F sc_require rfl rfl hB (fun cdv A outer s H Ex hr => ?_)
  have c := bd_ctx (P := P) (w := w) (E := E) (mg := mg) (base := base) (N := ["holds"]) (Ex := Ex) (H := H) (outer := outer) hr
  have nd : (["holds"] : List Str).Nodup := sc_require.nd
  exact (xss_one (xs_if (xt_not (zt_val (XE.loose (xe_var fun _ => pv 0)) c))
    (xss_one (zs_raise c T.x_InvalidTable (fun _ => T.g_InvalidTable) (fun _ => rfl)))
    xss_nil))
theorem sc_Table_is_point : FnScope ["self", "point"] ["self", "point"] (defScope s_Table_is_point) := ⟨rfl, rfl, rfl, by decide +kernel, rfl, by decide +kernel, by decide +kernel⟩
theorem ok_Table_is_point (T : Txt E mg) (hF : ∃ fd, FunD E.K "is_point" "Table.is_point" (defArgs s_Table_is_point) (defBody s_Table_is_point) (defScope s_Table_is_point) [] [] (He.ma E.K (E.cl "Table") "is_point") fd) : FnX P w E mg base 1 (He.ma E.K (E.cl "Table") "is_point") ["self", "point"] f_Table_is_point := by
  obtain ⟨fd, F⟩ := hF
  have hB : Binds E.K fd ["self", "point"] [] := F.bindsN (fun _ _ _ _ _ _ us hl => match us, hl with | [_, _], _ => rfl)
  refine fnX_mk (m := 2) (k := 0) (p := p_Table_is_point) F sc_Table_is_point rfl rfl hB (fun cdv A outer s H Ex hr => ?_)
  have c := bd_ctx (P := P) (w := w) (E := E) (mg := mg) (base := base) (N := ["self", "point"]) (Ex := Ex) (H := H) (outer := outer) hr
  have nd : (["self", "point"] : List Str).Nodup := sc_Table_is_point.nd
  exact (xss_one (xs_ret (xe_and (ye_chain (cmp_le c) (cmp_le c) (XE.loose xe_int) (XE.loose (xe_ix c (XE.loose (xe_var fun _ => pv 1)) (XE.loose xe_int))) (XE.loose (xe_fld c T.cls_Table (by decide) (XE.loose (xe_var fun _ => pv 0))))) (xe_one (ye_chain (cmp_le c) (cmp_le c) (XE.loose xe_int) (XE.loose (xe_ix c (XE.loose (xe_var fun _ => pv 1)) (XE.loose xe_int))) (XE.loose (xe_fld c T.cls_Table (by decide) (XE.loose (xe_var fun _ => pv 0)))))))))
theorem sc_Table_init : FnScope ["self", "width", "height", "pockets", "point", "number"] ["self", "width", "height", "pockets"] (defScope s_Table_init) := ⟨rfl, rfl, rfl, by decide +kernel, rfl, by decide +kernel, by decide +kernel⟩
theorem ok_Table_init (T : Txt E mg) (hF : ∃ fd, FunD E.K "__init__" "Table.__init__" (defArgs s_Table_init) (defBody s_Table_init) (defScope s_Table_init) [V.ref (He.dflAt ("Table", some "__init__") 0 E.K)] [] (He.ma E.K (E.cl "Table") "__init__") fd) (h_require : FnX P w E mg base 1 (E.cl "require") ["holds"] f_require) (h_Table_is_point : FnX P w E mg base 1 (He.ma E.K (E.cl "Table") "is_point") ["self", "point"] f_Table_is_point) : InX P w E mg base 2 "Table" 3 [.tup []] f_Table_init := by
  obtain ⟨fd_require, G_require, B_require, K_require⟩ := h_require.ex
  obtain ⟨fd_Table_is_point, G_Table_is_point, B_Table_is_point, K_Table_is_point⟩ := h_Table_is_point.ex
  obtain ⟨fd, F⟩ := hF
  have hB : Binds E.K fd ["self", "width", "height", "pockets"] [] := binds_nil (F.binds1 4 1 (by simp) rfl fun T kV doc pm an cdv ct us its hu hi => match us, hu, its, hi with | [_, _, _, _], _, [_], _ => ⟨_, rfl, rfl⟩)
  have hB2 := F.binds1 (ps := ["self", "width", "height", "pockets"]) 3 0 (by simp) rfl fun T kV doc pm an cdv ct us its hu hi => match us, hu, its, hi with | [_, _, _], _, [_], _ => ⟨_, rfl, rfl⟩
  refine inX_mk (m := 6) (k := 1) (p := p_Table_init) F sc_Table_init rfl rfl rfl T.mk_Table hB (fun F => .cons (dfl_rep T.df_Table_0 F) (rfl)) hB2 (fun cdv A outer s H Ex hr => ?_)
  have c := bd_ctx (P := P) (w := w) (E := E) (mg := mg) (base := base) (N := ["self", "width", "height", "pockets", "point", "number"]) (Ex := Ex) (H := H) (outer := outer) hr
  have nd : (["self", "width", "height", "pockets", "point", "number"] : List Str).Nodup := sc_Table_init.nd
  exact (xi_stm (xs_expr (xe_call c (fun _ => G_require) (by decide) (fun _ => rfl) (fun _ => T.g_require) K_require B_require .nil (fun _ => rfl) (xa_cons (xe_and (ye_chain (cmp_le c) (cmp_le c) (XE.loose xe_int) (XE.loose (xe_var fun _ => pv 1)) (XE.loose (xe_con T.c_MOST (fun _ => rfl) (fun _ => rfl)))) (xe_one (ye_chain (cmp_le c) (cmp_le c) (XE.loose xe_int) (XE.loose (xe_var fun _ => pv 2)) (XE.loose (xe_con T.c_MOST (fun _ => rfl) (fun _ => rfl)))))) xa_nil)))
    (xi_fld c T.cls_Table (by decide) (fun _ => pv 0) (xe_var fun _ => pv 1)
    (xi_fld c T.cls_Table (by decide) (fun _ => pv 0) (xe_var fun _ => pv 2)
    (xi_stm (xs_expr (xe_call c (fun _ => G_require) (by decide) (fun _ => rfl) (fun _ => T.g_require) K_require B_require .nil (fun _ => rfl) (xa_cons (xe_and (ye_cmp (cmp_le c) (XE.loose (ye_len c T.n_len (fun _ => rfl) (fun _ => rfl) (xal_cons (XE.loose (xe_var fun _ => pv 3)) xal_nil))) (XE.loose (xe_con T.c_MOST_POCKETS (fun _ => rfl) (fun _ => rfl))) (nomark _)) (xe_one (ye_all c T.n_all (fun _ => rfl) (fun _ => rfl) (xal_cons (XE.loose (XN.xe (xn_lc c (fun _ => nd) (xlc (own := ([("point", 4)] : List (Str × Nat))) c (xi_seq c (xe_var fun _ => pv 3)) (xg_name fun _ => pg_name (i := 4) nd rfl (by first | exact Or.inl rfl | exact Or.inr rfl)) (by decide) xts_nil (ye_cmp (cmp_eq (Ctx.blk c _)) (XE.loose (ye_len (Ctx.blk c _) T.n_len (fun _ => rfl) (fun _ => rfl) (xal_cons (XE.loose (xe_var fun _ => pv 4)) xal_nil))) (XE.loose xe_int) (nomark _))) (fun _ => blkOk_by (N := ["self", "width", "height", "pockets", "point", "number"]) (sc := defScope s_Table_init) (by decide +kernel))))) xal_nil)))) xa_nil)))
    (xi_fld c T.cls_Table (by decide) (fun _ => pv 0) (ye_tuple c T.n_tuple (fun _ => rfl) (fun _ => rfl) (xal_cons (XE.loose (XN.xe (xn_lc c (fun _ => nd) (xlc (own := ([("point", 4)] : List (Str × Nat))) c (xi_seq c (xe_var fun _ => pv 3)) (xg_name fun _ => pg_name (i := 4) nd rfl (by first | exact Or.inl rfl | exact Or.inr rfl)) (by decide) xts_nil (ye_tuple (Ctx.blk c _) T.n_tuple (fun _ => rfl) (fun _ => rfl) (xal_cons (XE.loose (xe_var fun _ => pv 4)) xal_nil))) (fun _ => blkOk_by (N := ["self", "width", "height", "pockets", "point", "number"]) (sc := defScope s_Table_init) (by decide +kernel))))) xal_nil))
    (xi_rest (xss_one (xs_for c (xi_enum2 c (fun _ => rfl) (fun _ => T.n_enumerate) (xa_cons (xe_fld c T.cls_Table (by decide) (XE.loose (xe_var fun _ => pv 0))) xa_nil)) (xg_tup c (xgs_cons (xg_name fun _ => pg_name (i := 5) nd rfl (by first | exact Or.inl rfl | exact Or.inr rfl)) (xgs_cons (xg_name fun _ => pg_name (i := 4) nd rfl (by first | exact Or.inl rfl | exact Or.inr rfl)) xgs_nil)) (gs_lenS (gs_lenS gs_len0)))
    (xss_one (xs_expr (xe_call c (fun _ => G_require) (by decide) (fun _ => rfl) (fun _ => T.g_require) K_require B_require .nil (fun _ => rfl) (xa_cons (xe_and (xe_meth c T.cls_Table T.m_Table_is_point (fun _ => G_Table_is_point) (by decide) B_Table_is_point (xe_var fun _ => pv 0) (xa_cons (xe_var fun _ => pv 4) xa_nil)) (xe_one (ye_cmp (cmp_notIn2 c) (XE.loose (xe_var fun _ => pv 4)) (XE.loose (xe_slice c (XE.loose (xe_fld c T.cls_Table (by decide) (XE.loose (xe_var fun _ => pv 0)))) xo_none (xo_some (XE.loose (xe_var fun _ => pv 5))))) (by rfl)))) xa_nil))))))))))))
theorem sc_is_name : FnScope ["text", "char"] ["text"] (defScope s_is_name) := ⟨rfl, rfl, rfl, by decide +kernel, rfl, by decide +kernel, by decide +kernel⟩
theorem ok_is_name (T : Txt E mg) (hF : ∃ fd, FunD E.K "is_name" "is_name" (defArgs s_is_name) (defBody s_is_name) (defScope s_is_name) [] [] (E.cl "is_name") fd) : FnX P w E mg base 1 (E.cl "is_name") ["text"] f_is_name := by
  obtain ⟨fd, F⟩ := hF
  have hB : Binds E.K fd ["text"] [] := F.bindsN (fun _ _ _ _ _ _ us hl => match us, hl with | [_], _ => rfl)
  refine fnX_mk (m := 2) (k := 0) (p := p_is_name) F sc_is_name rfl rfl hB (fun cdv A outer s H Ex hr => ?_)
  have c := bd_ctx (P := P) (w := w) (E := E) (mg := mg) (base := base) (N := ["text", "char"]) (Ex := Ex) (H := H) (outer := outer) hr
  have nd : (["text", "char"] : List Str).Nodup := sc_is_name.nd
  exact (xss_cons (xs_if (xw_pt (xw_or (xt_not (zt_chain (cmp_le c) (cmp_le c) (XE.loose xe_int) (XE.loose (ye_len c T.n_len (fun _ => rfl) (fun _ => rfl) (xal_cons (XE.loose (xe_var fun _ => pv 0)) xal_nil))) (XE.loose (xe_con T.c_MOST_NAME_CHARS (fun _ => rfl) (fun _ => rfl))))) (xw_or1 (zt_cmp (cmp_in2 c) (XE.loose (xe_ix c (XE.loose (xe_var fun _ => pv 0)) (XE.loose xe_int))) (XE.loose xe_str) (by rfl)))))
    (xss_one (xs_ret xe_bl))
    xss_nil)
    (xss_one (xs_ret (ye_all c T.n_all (fun _ => rfl) (fun _ => rfl) (xal_cons (XE.loose (XN.xe (xn_lc c (fun _ => nd) (xlc (own := ([("char", 1)] : List (Str × Nat))) c (xi_seq c (xe_var fun _ => pv 0)) (xg_name fun _ => pg_name (i := 1) nd rfl (by first | exact Or.inl rfl | exact Or.inr rfl)) (by decide) xts_nil (ye_cmp (cmp_in2 (Ctx.blk c _)) (XE.loose (xe_var fun _ => pv 1)) (XE.loose (xe_con T.c_NAME_CHARS (fun _ => rfl) (fun _ => rfl))) (by rfl))) (fun _ => blkOk_by (N := ["text", "char"]) (sc := defScope s_is_name) (by decide +kernel))))) xal_nil)))))
theorem sc_is_ball : FnScope ["table", "ball", "_", "x", "y", "dx", "dy", "minute"] ["table", "ball"] (defScope s_is_ball) := ⟨rfl, rfl, rfl, by decide +kernel, rfl, by decide +kernel, by decide +kernel⟩
theorem ok_is_ball (T : Txt E mg) (hF : ∃ fd, FunD E.K "is_ball" "is_ball" (defArgs s_is_ball) (defBody s_is_ball) (defScope s_is_ball) [] [] (E.cl "is_ball") fd) (h_is_name : FnX P w E mg base 1 (E.cl "is_name") ["text"] f_is_name) (h_Table_is_point : FnX P w E mg base 1 (He.ma E.K (E.cl "Table") "is_point") ["self", "point"] f_Table_is_point) : FnX P w E mg base 2 (E.cl "is_ball") ["table", "ball"] f_is_ball := by
  obtain ⟨fd_is_name, G_is_name, B_is_name, K_is_name⟩ := h_is_name.ex
  obtain ⟨fd_Table_is_point, G_Table_is_point, B_Table_is_point, K_Table_is_point⟩ := h_Table_is_point.ex
  obtain ⟨fd, F⟩ := hF
  have hB : Binds E.K fd ["table", "ball"] [] := F.bindsN (fun _ _ _ _ _ _ us hl => match us, hl with | [_, _], _ => rfl)
  refine fnX_mk (m := 8) (k := 1) (p := p_is_ball) F sc_is_ball rfl rfl hB (fun cdv A outer s H Ex hr => ?_)
  have c := bd_ctx (P := P) (w := w) (E := E) (mg := mg) (base := base) (N := ["table", "ball", "_", "x", "y", "dx", "dy", "minute"]) (Ex := Ex) (H := H) (outer := outer) hr
  have nd : (["table", "ball", "_", "x", "y", "dx", "dy", "minute"] : List Str).Nodup := sc_is_ball.nd
  exact (xss_cons (xs_if (xw_pt (xw_or (zt_cmp (cmp_ne c) (XE.loose (ye_len c T.n_len (fun _ => rfl) (fun _ => rfl) (xal_cons (XE.loose (xe_var fun _ => pv 1)) xal_nil))) (XE.loose xe_int) (nomark _)) (xw_or1 (xt_not (zt_val (XE.loose (xe_call c (fun _ => G_is_name) (by decide) (fun _ => rfl) (fun _ => T.g_is_name) K_is_name B_is_name .nil (fun _ => rfl) (xa_cons (xe_ix c (XE.loose (xe_var fun _ => pv 1)) (XE.loose xe_int)) xa_nil))) c)))))
    (xss_one (xs_ret xe_bl))
    xss_nil)
    (xss_cons (xs_asg (xe_var fun _ => pv 1) (xg_tup c (xgs_cons (xg_name fun _ => pg_name (i := 2) nd rfl (by first | exact Or.inl rfl | exact Or.inr rfl)) (xgs_cons (xg_name fun _ => pg_name (i := 3) nd rfl (by first | exact Or.inl rfl | exact Or.inr rfl)) (xgs_cons (xg_name fun _ => pg_name (i := 4) nd rfl (by first | exact Or.inl rfl | exact Or.inr rfl)) (xgs_cons (xg_name fun _ => pg_name (i := 5) nd rfl (by first | exact Or.inl rfl | exact Or.inr rfl)) (xgs_cons (xg_name fun _ => pg_name (i := 6) nd rfl (by first | exact Or.inl rfl | exact Or.inr rfl)) (xgs_cons (xg_name fun _ => pg_name (i := 7) nd rfl (by first | exact Or.inl rfl | exact Or.inr rfl)) xgs_nil)))))) (gs_lenS (gs_lenS (gs_lenS (gs_lenS (gs_lenS (gs_lenS gs_len0))))))))
    (xss_cons (xs_if (xw_pt (xw_or (xt_not (zt_val (XE.loose (xe_meth c T.cls_Table T.m_Table_is_point (fun _ => G_Table_is_point) (by decide) B_Table_is_point (xe_var fun _ => pv 0) (xa_cons (xe_tup (xa_cons (xe_var fun _ => pv 3) (xa_cons (xe_var fun _ => pv 4) xa_nil))) xa_nil))) c)) (xw_or1 (xt_not (zt_chain (cmp_le c) (cmp_le c) (XE.loose xe_int) (XE.loose (xe_var fun _ => pv 7)) (XE.loose (xe_con T.c_MOST (fun _ => rfl) (fun _ => rfl))))))))
    (xss_one (xs_ret xe_bl))
    xss_nil)
    (xss_one (xs_ret (xe_and (ye_cmp (cmp_in2 c) (XE.loose (xe_var fun _ => pv 5)) (XE.loose (xe_tup (xa_cons (xe_neg (XE.loose xe_int)) (xa_cons xe_int (xa_cons xe_int xa_nil))))) (by rfl)) (xe_and (ye_cmp (cmp_in2 c) (XE.loose (xe_var fun _ => pv 6)) (XE.loose (xe_tup (xa_cons (xe_neg (XE.loose xe_int)) (xa_cons xe_int (xa_cons xe_int xa_nil))))) (by rfl)) (xe_one (ye_cmp (cmp_ne c) (XE.loose (xe_tup (xa_cons (xe_var fun _ => pv 5) (xa_cons (xe_var fun _ => pv 6) xa_nil)))) (XE.loose (xe_tup (xa_cons xe_int (xa_cons xe_int xa_nil)))) (nomark _))))))))))
theorem sc_check_ball : FnScope ["table", "ball"] ["table", "ball"] (defScope s_check_ball) := ⟨rfl, rfl, rfl, by decide +kernel, rfl, by decide +kernel, by decide +kernel⟩
theorem ok_check_ball (T : Txt E mg) (hF : ∃ fd, FunD E.K "check_ball" "check_ball" (defArgs s_check_ball) (defBody s_check_ball) (defScope s_check_ball) [] [] (E.cl "check_ball") fd) (h_is_ball : FnX P w E mg base 2 (E.cl "is_ball") ["table", "ball"] f_is_ball) : FnX P w E mg base 3 (E.cl "check_ball") ["table", "ball"] f_check_ball := by
  obtain ⟨fd_is_ball, G_is_ball, B_is_ball, K_is_ball⟩ := h_is_ball.ex
  obtain ⟨fd, F⟩ := hF
  have hB : Binds E.K fd ["table", "ball"] [] := F.bindsN (fun _ _ _ _ _ _ us hl => match us, hl with | [_, _], _ => rfl)
  refine fnX_mk (m := 2) (k := 2) (p := p_check_ball) F sc_check_ball rfl rfl hB (fun cdv A outer s H Ex hr => ?_)
  have c := bd_ctx (P := P) (w := w) (E := E) (mg := mg) (base := base) (N := ["table", "ball"]) (Ex := Ex) (H := H) (outer := outer) hr
  have nd : (["table", "ball"] : List Str).Nodup := sc_check_ball.nd
  exact (xss_one (xs_if (xt_not (zt_val (XE.loose (xe_call c (fun _ => G_is_ball) (by decide) (fun _ => rfl) (fun _ => T.g_is_ball) K_is_ball B_is_ball .nil (fun _ => rfl) (xa_cons (xe_var fun _ => pv 0) (xa_cons (xe_var fun _ => pv 1) xa_nil)))) c))
    (xss_one (zs_raise c T.x_InvalidBall (fun _ => T.g_InvalidBall) (fun _ => rfl)))
    xss_nil))
theorem sc_check_balls : FnScope ["table", "balls", "number", "ball", "other"] ["table", "balls"] (defScope s_check_balls) := ⟨rfl, rfl, rfl, by decide +kernel, rfl, by decide +kernel, by decide +kernel⟩
theorem ok_check_balls (T : Txt E mg) (hF : ∃ fd, FunD E.K "check_balls" "check_balls" (defArgs s_check_balls) (defBody s_check_balls) (defScope s_check_balls) [] [] (E.cl "check_balls") fd) (h_check_ball : FnX P w E mg base 3 (E.cl "check_ball") ["table", "ball"] f_check_ball) : FnX P w E mg base 4 (E.cl "check_balls") ["table", "balls"] f_check_balls := by
  obtain ⟨fd_check_ball, G_check_ball, B_check_ball, K_check_ball⟩ := h_check_ball.ex
  obtain ⟨fd, F⟩ := hF
  have hB : Binds E.K fd ["table", "balls"] [] := F.bindsN (fun _ _ _ _ _ _ us hl => match us, hl with | [_, _], _ => rfl)
  refine fnX_mk (m := 5) (k := 3) (p := p_check_balls) F sc_check_balls rfl rfl hB (fun cdv A outer s H Ex hr => ?_)
  have c := bd_ctx (P := P) (w := w) (E := E) (mg := mg) (base := base) (N := ["table", "balls", "number", "ball", "other"]) (Ex := Ex) (H := H) (outer := outer) hr
  have nd : (["table", "balls", "number", "ball", "other"] : List Str).Nodup := sc_check_balls.nd
  exact (xss_cons (xs_for c (xi_enum2 c (fun _ => rfl) (fun _ => T.n_enumerate) (xa_cons (xe_var fun _ => pv 1) xa_nil)) (xg_tup c (xgs_cons (xg_name fun _ => pg_name (i := 2) nd rfl (by first | exact Or.inl rfl | exact Or.inr rfl)) (xgs_cons (xg_name fun _ => pg_name (i := 3) nd rfl (by first | exact Or.inl rfl | exact Or.inr rfl)) xgs_nil)) (gs_lenS (gs_lenS gs_len0)))
    (xss_cons (xs_expr (xe_call c (fun _ => G_check_ball) (by decide) (fun _ => rfl) (fun _ => T.g_check_ball) K_check_ball B_check_ball .nil (fun _ => rfl) (xa_cons (xe_var fun _ => pv 0) (xa_cons (xe_var fun _ => pv 3) xa_nil))))
    (xss_one (xs_if (zt_cmp (cmp_in2 c) (XE.loose (xe_ix c (XE.loose (xe_var fun _ => pv 3)) (XE.loose xe_int))) (XE.loose (XN.xe (xn_lc c (fun _ => nd) (xlc (own := ([("other", 4)] : List (Str × Nat))) c (xi_seq c (xe_slice c (XE.loose (xe_var fun _ => pv 1)) xo_none (xo_some (XE.loose (xe_var fun _ => pv 2))))) (xg_name fun _ => pg_name (i := 4) nd rfl (by first | exact Or.inl rfl | exact Or.inr rfl)) (by decide) xts_nil (xe_ix (Ctx.blk c _) (XE.loose (xe_var fun _ => pv 4)) (XE.loose xe_int))) (fun _ => blkOk_by (N := ["table", "balls", "number", "ball", "other"]) (sc := defScope s_check_balls) (by decide +kernel))))) (by rfl))
    (xss_one (zs_raise c T.x_InvalidBall (fun _ => T.g_InvalidBall) (fun _ => rfl)))
    xss_nil))))
    (xss_one (xs_if (zt_cmp (cmp_gt c) (XE.loose (ye_len c T.n_len (fun _ => rfl) (fun _ => rfl) (xal_cons (XE.loose (xe_var fun _ => pv 1)) xal_nil))) (XE.loose (xe_con T.c_MOST_BALLS (fun _ => rfl) (fun _ => rfl))) (nomark _))
    (xss_one (zs_raise c T.x_InvalidBall (fun _ => T.g_InvalidBall) (fun _ => rfl)))
    xss_nil)))
theorem sc_law_row : FnScope ["_law_cell", "_law_many", "_law_row_here", "_law_rest", "_law_mixed", "_law_k"] ["_law_cell", "_law_many"] (defScope s_law_row) := ⟨rfl, rfl, rfl, by decide +kernel, rfl, by decide +kernel, by decide +kernel⟩
theorem ok_law_row (T : Txt E mg) (hF : ∃ fd, FunD E.K "_law_row" "_law_row" (defArgs s_law_row) (defBody s_law_row) (defScope s_law_row) [] [] (E.cl "_law_row") fd) : FnX P w E mg base 1 (E.cl "_law_row") ["_law_cell", "_law_many"] f_law_row := by
  obtain ⟨fd, F⟩ := hF
  have hB : Binds E.K fd ["_law_cell", "_law_many"] [] := F.bindsN (fun _ _ _ _ _ _ us hl => match us, hl with | [_, _], _ => rfl)
  refine fnX_mk (m := 6) (k := 0) (p := p_law_row) F sc_law_row rfl rfl hB (fun cdv A outer s H Ex hr => ?_)
  have c := bd_ctx (P := P) (w := w) (E := E) (mg := mg) (base := base) (N := ["_law_cell", "_law_many", "_law_row_here", "_law_rest", "_law_mixed", "_law_k"]) (Ex := Ex) (H := H) (outer := outer) hr
  have nd : (["_law_cell", "_law_many", "_law_row_here", "_law_rest", "_law_mixed", "_law_k"] : List Str).Nodup := sc_law_row.nd
  exact (xss_cons (xs_setO ⟨fun _ => nd, fun _ => rfl, fun _ => (by first | exact Or.inl rfl | exact Or.inr rfl), fun _ => Or.inl rfl⟩ (xn_lst xa_nil))
    (xss_cons (xs_set ⟨fun _ => nd, fun _ => rfl, fun _ => (by first | exact Or.inl rfl | exact Or.inr rfl), fun _ => Or.inl rfl⟩ (ye_abs c T.n_abs (fun _ => rfl) (fun _ => rfl) (xal_cons (XE.loose (xe_var fun _ => pv 0)) xal_nil)))
    (xss_cons (xs_set ⟨fun _ => nd, fun _ => rfl, fun _ => (by first | exact Or.inl rfl | exact Or.inr rfl), fun _ => Or.inl rfl⟩ (xe_mod c (XE.loose (ye_int c T.n_int (fun _ => rfl) (fun _ => rfl) (xal_cons (XE.loose (xe_add c (XE.loose (xe_mul c (XE.loose (xe_var fun _ => pv 3)) (XE.loose xe_int))) (XE.loose xe_int))) xal_nil))) (XE.loose xe_int)))
    (xss_cons (xs_for c (xi_range1 (fun _ => rfl) (fun _ => T.n_range) (xal_cons (XE.loose (xe_var fun _ => pv 1)) xal_nil)) (xg_name fun _ => pg_name (i := 5) nd rfl (by first | exact Or.inl rfl | exact Or.inr rfl))
    (xss_cons (xs_set ⟨fun _ => nd, fun _ => rfl, fun _ => (by first | exact Or.inl rfl | exact Or.inr rfl), fun _ => Or.inl rfl⟩ (xe_mod c (XE.loose (ye_int c T.n_int (fun _ => rfl) (fun _ => rfl) (xal_cons (XE.loose (xe_add c (XE.loose (xe_mul c (XE.loose (xe_var fun _ => pv 4)) (XE.loose xe_int))) (XE.loose (xe_mul c (XE.loose xe_int) (XE.loose (xe_add c (XE.loose (xe_var fun _ => pv 5)) (XE.loose xe_int))))))) xal_nil))) (XE.loose xe_int)))
    (xss_one (xs_if (zt_cmp (cmp_ge c) (XE.loose (ye_abs c T.n_abs (fun _ => rfl) (fun _ => rfl) (xal_cons (XE.loose (xe_var fun _ => pv 0)) xal_nil))) (XE.loose (xe_pow c (XE.loose xe_int) (XE.loose xe_int))) (nomark _))
    (xss_cons (xs_app c (fun _ => pv 2) (xe_mod c (XE.loose (ye_int c T.n_int (fun _ => rfl) (fun _ => rfl) (xal_cons (XE.loose (xe_var fun _ => pv 3)) xal_nil))) (XE.loose xe_int)))
    (xss_one (xs_set ⟨fun _ => nd, fun _ => rfl, fun _ => (by first | exact Or.inl rfl | exact Or.inr rfl), fun _ => Or.inl rfl⟩ (xe_div c (XE.loose (xe_var fun _ => pv 3)) (XE.loose xe_int)))))
    (xss_one (xs_app c (fun _ => pv 2) (xe_mod c (XE.loose (ye_int c T.n_int (fun _ => rfl) (fun _ => rfl) (xal_cons (XE.loose (xe_div c (XE.loose (xe_var fun _ => pv 4)) (XE.loose xe_int))) xal_nil))) (XE.loose xe_int))))))))
    (zss_frz 2 (xss_one (xs_ret (xe_var fun _ => pv 2))))))))
theorem sc_law_numbers : FnScope ["_law_script", "_law_many", "_law_cells", "_law_each", "_law_numbers_here", "_law_cell", "_law_number"] ["_law_script", "_law_many"] (defScope s_law_numbers) := ⟨rfl, rfl, rfl, by decide +kernel, rfl, by decide +kernel, by decide +kernel⟩
theorem ok_law_numbers (T : Txt E mg) (hF : ∃ fd, FunD E.K "_law_numbers" "_law_numbers" (defArgs s_law_numbers) (defBody s_law_numbers) (defScope s_law_numbers) [] [] (E.cl "_law_numbers") fd) (h_law_row : FnX P w E mg base 1 (E.cl "_law_row") ["_law_cell", "_law_many"] f_law_row) : FnX P w E mg base 2 (E.cl "_law_numbers") ["_law_script", "_law_many"] f_law_numbers := by
  obtain ⟨fd_law_row, G_law_row, B_law_row, K_law_row⟩ := h_law_row.ex
  obtain ⟨fd, F⟩ := hF
  have hB : Binds E.K fd ["_law_script", "_law_many"] [] := F.bindsN (fun _ _ _ _ _ _ us hl => match us, hl with | [_, _], _ => rfl)
  refine fnX_mk (m := 7) (k := 1) (p := p_law_numbers) F sc_law_numbers rfl rfl hB (fun cdv A outer s H Ex hr => ?_)
  have c := bd_ctx (P := P) (w := w) (E := E) (mg := mg) (base := base) (N := ["_law_script", "_law_many", "_law_cells", "_law_each", "_law_numbers_here", "_law_cell", "_law_number"]) (Ex := Ex) (H := H) (outer := outer) hr
  have nd : (["_law_script", "_law_many", "_law_cells", "_law_each", "_law_numbers_here", "_law_cell", "_law_number"] : List Str).Nodup := sc_law_numbers.nd
  exact (xss_cons (xs_set ⟨fun _ => nd, fun _ => rfl, fun _ => (by first | exact Or.inl rfl | exact Or.inr rfl), fun _ => Or.inl rfl⟩ (xe_slice c (XE.loose (xe_var fun _ => pv 0)) xo_none (xo_some (XE.loose xe_int))))
    (xss_cons (xs_set ⟨fun _ => nd, fun _ => rfl, fun _ => (by first | exact Or.inl rfl | exact Or.inr rfl), fun _ => Or.inl rfl⟩ (xe_add c (XE.loose xe_int) (XE.loose (xe_div c (XE.loose (xe_var fun _ => pv 1)) (XE.loose (ye_max2 c T.n_max (fun _ => rfl) (fun _ => rfl) (xal_cons (XE.loose xe_int) (xal_cons (XE.loose (ye_len c T.n_len (fun _ => rfl) (fun _ => rfl) (xal_cons (XE.loose (xe_var fun _ => pv 2)) xal_nil))) xal_nil))))))))
    (xss_cons (xs_setO ⟨fun _ => nd, fun _ => rfl, fun _ => (by first | exact Or.inl rfl | exact Or.inr rfl), fun _ => Or.inl rfl⟩ (xn_lst xa_nil))
    (xss_cons (xs_for c (xi_seq c (xe_var fun _ => pv 2)) (xg_name fun _ => pg_name (i := 5) nd rfl (by first | exact Or.inl rfl | exact Or.inr rfl))
    (xss_one (xs_for c (xi_seq c (xe_call c (fun _ => G_law_row) (by decide) (fun _ => rfl) (fun _ => T.g_law_row) K_law_row B_law_row .nil (fun _ => rfl) (xa_cons (xe_var fun _ => pv 5) (xa_cons (xe_var fun _ => pv 3) xa_nil)))) (xg_name fun _ => pg_name (i := 6) nd rfl (by first | exact Or.inl rfl | exact Or.inr rfl))
    (xss_one (xs_app c (fun _ => pv 4) (xe_var fun _ => pv 6))))))
    (xss_cons (xs_while (fun ρ => fuelI 1 ρ) c (zt_cmp (cmp_lt c) (XE.loose (ye_len c T.n_len (fun _ => rfl) (fun _ => rfl) (xal_cons (xl_var fun _ => pv 4) xal_nil))) (XE.loose (xe_var fun _ => pv 1)) (nomark _))
    (xss_one (xs_app c (fun _ => pv 4) xe_int)))
    (zss_frz 4 (xss_one (xs_ret (xe_slice c (XE.loose (xe_var fun _ => pv 4)) xo_none (xo_some (XE.loose (xe_var fun _ => pv 1))))))))))))
theorem sc_law_big : FnScope ["_law_numbers_here", "_law_at", "_law_least", "_law_most", "_law_choice", "_law_value", "_law_k"] ["_law_numbers_here", "_law_at", "_law_least", "_law_most"] (defScope s_law_big) := ⟨rfl, rfl, rfl, by decide +kernel, rfl, by decide +kernel, by decide +kernel⟩
theorem ok_law_big (T : Txt E mg) (hF : ∃ fd, FunD E.K "_law_big" "_law_big" (defArgs s_law_big) (defBody s_law_big) (defScope s_law_big) [] [] (E.cl "_law_big") fd) : FnX P w E mg base 1 (E.cl "_law_big") ["_law_numbers_here", "_law_at", "_law_least", "_law_most"] f_law_big := by
  obtain ⟨fd, F⟩ := hF
  have hB : Binds E.K fd ["_law_numbers_here", "_law_at", "_law_least", "_law_most"] [] := F.bindsN (fun _ _ _ _ _ _ us hl => match us, hl with | [_, _, _, _], _ => rfl)
  refine fnX_mk (m := 7) (k := 0) (p := p_law_big) F sc_law_big rfl rfl hB (fun cdv A outer s H Ex hr => ?_)
  have c := bd_ctx (P := P) (w := w) (E := E) (mg := mg) (base := base) (N := ["_law_numbers_here", "_law_at", "_law_least", "_law_most", "_law_choice", "_law_value", "_law_k"]) (Ex := Ex) (H := H) (outer := outer) hr
  have nd : (["_law_numbers_here", "_law_at", "_law_least", "_law_most", "_law_choice", "_law_value", "_law_k"] : List Str).Nodup := sc_law_big.nd
  exact (xss_cons (xs_set ⟨fun _ => nd, fun _ => rfl, fun _ => (by first | exact Or.inl rfl | exact Or.inr rfl), fun _ => Or.inl rfl⟩ (xe_mod c (XE.loose (ye_int c T.n_int (fun _ => rfl) (fun _ => rfl) (xal_cons (XE.loose (xe_ix c (XE.loose (xe_var fun _ => pv 0)) (XE.loose (xe_var fun _ => pv 1)))) xal_nil))) (XE.loose xe_int)))
    (xss_cons (xs_if (zt_cmp (cmp_eq c) (XE.loose (xe_var fun _ => pv 4)) (XE.loose xe_int) (nomark _))
    (xss_one (xs_ret (xe_var fun _ => pv 2)))
    xss_nil)
    (xss_cons (xs_if (zt_cmp (cmp_eq c) (XE.loose (xe_var fun _ => pv 4)) (XE.loose xe_int) (nomark _))
    (xss_one (xs_ret (xe_var fun _ => pv 3)))
    xss_nil)
    (xss_cons (xs_if (zt_cmp (cmp_lt c) (XE.loose (xe_var fun _ => pv 4)) (XE.loose xe_int) (nomark _))
    (xss_one (xs_ret (ye_min2 c T.n_min (fun _ => rfl) (fun _ => rfl) (xal_cons (XE.loose (xe_var fun _ => pv 3)) (xal_cons (XE.loose (xe_add c (XE.loose (xe_var fun _ => pv 2)) (XE.loose (xe_mod c (XE.loose (ye_int c T.n_int (fun _ => rfl) (fun _ => rfl) (xal_cons (XE.loose (xe_ix c (XE.loose (xe_var fun _ => pv 0)) (XE.loose (xe_add c (XE.loose (xe_var fun _ => pv 1)) (XE.loose xe_int))))) xal_nil))) (XE.loose xe_int))))) xal_nil)))))
    xss_nil)
    (xss_cons (xs_set ⟨fun _ => nd, fun _ => rfl, fun _ => (by first | exact Or.inl rfl | exact Or.inr rfl), fun _ => Or.inl rfl⟩ xe_int)
    (xss_cons (xs_for c (xi_range1 (fun _ => rfl) (fun _ => T.n_range) (xal_cons (XE.loose xe_int) xal_nil)) (xg_name fun _ => pg_name (i := 6) nd rfl (by first | exact Or.inl rfl | exact Or.inr rfl))
    (xss_one (xs_set ⟨fun _ => nd, fun _ => rfl, fun _ => (by first | exact Or.inl rfl | exact Or.inr rfl), fun _ => Or.inl rfl⟩ (xe_add c (XE.loose (xe_mul c (XE.loose (xe_var fun _ => pv 5)) (XE.loose xe_int))) (XE.loose (ye_int c T.n_int (fun _ => rfl) (fun _ => rfl) (xal_cons (XE.loose (xe_ix c (XE.loose (xe_var fun _ => pv 0)) (XE.loose (xe_add c (XE.loose (xe_add c (XE.loose (xe_var fun _ => pv 1)) (XE.loose xe_int))) (XE.loose (xe_var fun _ => pv 6)))))) xal_nil)))))))
    (xss_one (xs_ret (xe_add c (XE.loose (xe_var fun _ => pv 2)) (XE.loose (xe_mod c (XE.loose (ye_int c T.n_int (fun _ => rfl) (fun _ => rfl) (xal_cons (XE.loose (xe_var fun _ => pv 5)) xal_nil))) (XE.loose (xe_add c (XE.loose (xe_sub c (XE.loose (xe_var fun _ => pv 3)) (XE.loose (xe_var fun _ => pv 2)))) (XE.loose xe_int))))))))))))))
theorem sc_law_name : FnScope ["_law_numbers_here", "_law_at", "_law_k", "_law_chars", "_law_prefix", "_law_n", "_law_place"] ["_law_numbers_here", "_law_at", "_law_k"] (defScope s_law_name) := ⟨rfl, rfl, rfl, by decide +kernel, rfl, by decide +kernel, by decide +kernel⟩
theorem ok_law_name (T : Txt E mg) (hF : ∃ fd, FunD E.K "_law_name" "_law_name" (defArgs s_law_name) (defBody s_law_name) (defScope s_law_name) [] [] (E.cl "_law_name") fd) : FnX P w E mg base 1 (E.cl "_law_name") ["_law_numbers_here", "_law_at", "_law_k"] f_law_name := by
  obtain ⟨fd, F⟩ := hF
  have hB : Binds E.K fd ["_law_numbers_here", "_law_at", "_law_k"] [] := F.bindsN (fun _ _ _ _ _ _ us hl => match us, hl with | [_, _, _], _ => rfl)
  refine fnX_mk (m := 7) (k := 0) (p := p_law_name) F sc_law_name rfl rfl hB (fun cdv A outer s H Ex hr => ?_)
  have c := bd_ctx (P := P) (w := w) (E := E) (mg := mg) (base := base) (N := ["_law_numbers_here", "_law_at", "_law_k", "_law_chars", "_law_prefix", "_law_n", "_law_place"]) (Ex := Ex) (H := H) (outer := outer) hr
  have nd : (["_law_numbers_here", "_law_at", "_law_k", "_law_chars", "_law_prefix", "_law_n", "_law_place"] : List Str).Nodup := sc_law_name.nd
  exact (xss_cons (xs_set ⟨fun _ => nd, fun _ => rfl, fun _ => (by first | exact Or.inl rfl | exact Or.inr rfl), fun _ => Or.inl rfl⟩ xe_str)
    (xss_cons (xs_set ⟨fun _ => nd, fun _ => rfl, fun _ => (by first | exact Or.inl rfl | exact Or.inr rfl), fun _ => Or.inl rfl⟩ (xe_ix c (XE.loose (xe_var fun _ => pv 3)) (XE.loose (xe_mod c (XE.loose (ye_int c T.n_int (fun _ => rfl) (fun _ => rfl) (xal_cons (XE.loose (xe_ix c (XE.loose (xe_var fun _ => pv 0)) (XE.loose (xe_var fun _ => pv 1)))) xal_nil))) (XE.loose xe_int)))))
    (xss_cons (xs_for c (xi_range1 (fun _ => rfl) (fun _ => T.n_range) (xal_cons (XE.loose (xe_mod c (XE.loose (ye_int c T.n_int (fun _ => rfl) (fun _ => rfl) (xal_cons (XE.loose (xe_ix c (XE.loose (xe_var fun _ => pv 0)) (XE.loose (xe_add c (XE.loose (xe_var fun _ => pv 1)) (XE.loose xe_int))))) xal_nil))) (XE.loose xe_int))) xal_nil)) (xg_name fun _ => pg_name (i := 5) nd rfl (by first | exact Or.inl rfl | exact Or.inr rfl))
    (xss_one (xs_set ⟨fun _ => nd, fun _ => rfl, fun _ => (by first | exact Or.inl rfl | exact Or.inr rfl), fun _ => Or.inl rfl⟩ (xe_add c (XE.loose (xe_var fun _ => pv 4)) (XE.loose (xe_ix c (XE.loose (xe_var fun _ => pv 3)) (XE.loose (xe_mod c (XE.loose (ye_int c T.n_int (fun _ => rfl) (fun _ => rfl) (xal_cons (XE.loose (xe_add c (XE.loose (xe_ix c (XE.loose (xe_var fun _ => pv 0)) (XE.loose (xe_add c (XE.loose (xe_var fun _ => pv 1)) (XE.loose xe_int))))) (XE.loose (xe_mul c (XE.loose (xe_var fun _ => pv 5)) (XE.loose (xe_ix c (XE.loose (xe_var fun _ => pv 0)) (XE.loose (xe_add c (XE.loose (xe_var fun _ => pv 1)) (XE.loose xe_int))))))))) xal_nil))) (XE.loose xe_int)))))))))
    (xss_cons (xs_set ⟨fun _ => nd, fun _ => rfl, fun _ => (by first | exact Or.inl rfl | exact Or.inr rfl), fun _ => Or.inl rfl⟩ (xe_add c (XE.loose xe_int) (XE.loose (xe_mod c (XE.loose (ye_int c T.n_int (fun _ => rfl) (fun _ => rfl) (xal_cons (XE.loose (xe_ix c (XE.loose (xe_var fun _ => pv 0)) (XE.loose (xe_add c (XE.loose (xe_var fun _ => pv 1)) (XE.loose xe_int))))) xal_nil))) (XE.loose (ye_len c T.n_len (fun _ => rfl) (fun _ => rfl) (xal_cons (XE.loose (xe_var fun _ => pv 4)) xal_nil)))))))
    (xss_one (xs_ret (xe_add c (XE.loose (xe_add c (XE.loose (xe_slice c (XE.loose (xe_var fun _ => pv 4)) xo_none (xo_some (XE.loose (xe_var fun _ => pv 6))))) (XE.loose (xe_ix c (XE.loose (xe_var fun _ => pv 3)) (XE.loose (xe_mod c (XE.loose (ye_int c T.n_int (fun _ => rfl) (fun _ => rfl) (xal_cons (XE.loose (xe_add c (XE.loose (xe_ix c (XE.loose (xe_var fun _ => pv 0)) (XE.loose (xe_add c (XE.loose (xe_var fun _ => pv 1)) (XE.loose xe_int))))) (XE.loose (xe_mul c (XE.loose xe_int) (XE.loose (xe_var fun _ => pv 2)))))) xal_nil))) (XE.loose xe_int))))))) (XE.loose (xe_slice c (XE.loose (xe_var fun _ => pv 4)) (xo_some (XE.loose (xe_var fun _ => pv 6))) xo_none)))))))))
theorem sc_law_points : FnScope ["_law_numbers_here", "_law_at", "_law_width", "_law_height", "_law_many", "_law_points_here", "_law_k", "_law_point"] ["_law_numbers_here", "_law_at", "_law_width", "_law_height", "_law_many"] (defScope s_law_points) := ⟨rfl, rfl, rfl, by decide +kernel, rfl, by decide +kernel, by decide +kernel⟩
theorem ok_law_points (T : Txt E mg) (hF : ∃ fd, FunD E.K "_law_points" "_law_points" (defArgs s_law_points) (defBody s_law_points) (defScope s_law_points) [] [] (E.cl "_law_points") fd) (h_law_big : FnX P w E mg base 1 (E.cl "_law_big") ["_law_numbers_here", "_law_at", "_law_least", "_law_most"] f_law_big) : FnX P w E mg base 2 (E.cl "_law_points") ["_law_numbers_here", "_law_at", "_law_width", "_law_height", "_law_many"] f_law_points := by
  obtain ⟨fd_law_big, G_law_big, B_law_big, K_law_big⟩ := h_law_big.ex
  obtain ⟨fd, F⟩ := hF
  have hB : Binds E.K fd ["_law_numbers_here", "_law_at", "_law_width", "_law_height", "_law_many"] [] := F.bindsN (fun _ _ _ _ _ _ us hl => match us, hl with | [_, _, _, _, _], _ => rfl)
  refine fnX_mk (m := 8) (k := 1) (p := p_law_points) F sc_law_points rfl rfl hB (fun cdv A outer s H Ex hr => ?_)
  have c := bd_ctx (P := P) (w := w) (E := E) (mg := mg) (base := base) (N := ["_law_numbers_here", "_law_at", "_law_width", "_law_height", "_law_many", "_law_points_here", "_law_k", "_law_point"]) (Ex := Ex) (H := H) (outer := outer) hr
  have nd : (["_law_numbers_here", "_law_at", "_law_width", "_law_height", "_law_many", "_law_points_here", "_law_k", "_law_point"] : List Str).Nodup := sc_law_points.nd
  exact (xss_cons (xs_setO ⟨fun _ => nd, fun _ => rfl, fun _ => (by first | exact Or.inl rfl | exact Or.inr rfl), fun _ => Or.inl rfl⟩ (xn_lst xa_nil))
    (xss_cons (xs_for c (xi_range1 (fun _ => rfl) (fun _ => T.n_range) (xal_cons (XE.loose (xe_var fun _ => pv 4)) xal_nil)) (xg_name fun _ => pg_name (i := 6) nd rfl (by first | exact Or.inl rfl | exact Or.inr rfl))
    (xss_cons (xs_set ⟨fun _ => nd, fun _ => rfl, fun _ => (by first | exact Or.inl rfl | exact Or.inr rfl), fun _ => Or.inl rfl⟩ (xe_tup (xa_cons (xe_call c (fun _ => G_law_big) (by decide) (fun _ => rfl) (fun _ => T.g_law_big) K_law_big B_law_big .nil (fun _ => rfl) (xa_cons (xe_var fun _ => pv 0) (xa_cons (xe_add c (XE.loose (xe_var fun _ => pv 1)) (XE.loose (xe_mul c (XE.loose xe_int) (XE.loose (xe_var fun _ => pv 6))))) (xa_cons xe_int (xa_cons (xe_var fun _ => pv 2) xa_nil))))) (xa_cons (xe_call c (fun _ => G_law_big) (by decide) (fun _ => rfl) (fun _ => T.g_law_big) K_law_big B_law_big .nil (fun _ => rfl) (xa_cons (xe_var fun _ => pv 0) (xa_cons (xe_add c (XE.loose (xe_add c (XE.loose (xe_var fun _ => pv 1)) (XE.loose xe_int))) (XE.loose (xe_mul c (XE.loose xe_int) (XE.loose (xe_var fun _ => pv 6))))) (xa_cons xe_int (xa_cons (xe_var fun _ => pv 3) xa_nil))))) xa_nil))))
    (xss_one (xs_if (zt_cmp (cmp_notIn2 c) (XE.loose (xe_var fun _ => pv 7)) (xl_var fun _ => pv 5) (by rfl))
    (xss_one (xs_app c (fun _ => pv 5) (xe_var fun _ => pv 7)))
    xss_nil))))
    (zss_frz 5 (xss_one (xs_ret (xe_var fun _ => pv 5))))))
theorem sc_law_balls : FnScope ["_law_numbers_here", "_law_at", "_law_width", "_law_height", "_law_many", "_law_balls_here", "_law_k", "_law_spot", "_law_steps", "_law_point"] ["_law_numbers_here", "_law_at", "_law_width", "_law_height", "_law_many"] (defScope s_law_balls) := ⟨rfl, rfl, rfl, by decide +kernel, rfl, by decide +kernel, by decide +kernel⟩
theorem ok_law_balls (T : Txt E mg) (hF : ∃ fd, FunD E.K "_law_balls" "_law_balls" (defArgs s_law_balls) (defBody s_law_balls) (defScope s_law_balls) [] [] (E.cl "_law_balls") fd) (h_law_big : FnX P w E mg base 1 (E.cl "_law_big") ["_law_numbers_here", "_law_at", "_law_least", "_law_most"] f_law_big) (h_law_name : FnX P w E mg base 1 (E.cl "_law_name") ["_law_numbers_here", "_law_at", "_law_k"] f_law_name) : FnX P w E mg base 2 (E.cl "_law_balls") ["_law_numbers_here", "_law_at", "_law_width", "_law_height", "_law_many"] f_law_balls := by
  obtain ⟨fd_law_big, G_law_big, B_law_big, K_law_big⟩ := h_law_big.ex
  obtain ⟨fd_law_name, G_law_name, B_law_name, K_law_name⟩ := h_law_name.ex
  obtain ⟨fd, F⟩ := hF
  have hB : Binds E.K fd ["_law_numbers_here", "_law_at", "_law_width", "_law_height", "_law_many"] [] := F.bindsN (fun _ _ _ _ _ _ us hl => match us, hl with | [_, _, _, _, _], _ => rfl)
  refine fnX_mk (m := 10) (k := 1) (p := p_law_balls) F sc_law_balls rfl rfl hB (fun cdv A outer s H Ex hr => ?_)
  have c := bd_ctx (P := P) (w := w) (E := E) (mg := mg) (base := base) (N := ["_law_numbers_here", "_law_at", "_law_width", "_law_height", "_law_many", "_law_balls_here", "_law_k", "_law_spot", "_law_steps", "_law_point"]) (Ex := Ex) (H := H) (outer := outer) hr
  have nd : (["_law_numbers_here", "_law_at", "_law_width", "_law_height", "_law_many", "_law_balls_here", "_law_k", "_law_spot", "_law_steps", "_law_point"] : List Str).Nodup := sc_law_balls.nd
  exact (xss_cons (xs_setO ⟨fun _ => nd, fun _ => rfl, fun _ => (by first | exact Or.inl rfl | exact Or.inr rfl), fun _ => Or.inl rfl⟩ (xn_lst xa_nil))
    (xss_cons (xs_for c (xi_range1 (fun _ => rfl) (fun _ => T.n_range) (xal_cons (XE.loose (xe_var fun _ => pv 4)) xal_nil)) (xg_name fun _ => pg_name (i := 6) nd rfl (by first | exact Or.inl rfl | exact Or.inr rfl))
    (xss_cons (xs_set ⟨fun _ => nd, fun _ => rfl, fun _ => (by first | exact Or.inl rfl | exact Or.inr rfl), fun _ => Or.inl rfl⟩ (xe_add c (XE.loose (xe_var fun _ => pv 1)) (XE.loose (xe_mul c (XE.loose xe_int) (XE.loose (xe_var fun _ => pv 6))))))
    (xss_cons (xs_set ⟨fun _ => nd, fun _ => rfl, fun _ => (by first | exact Or.inl rfl | exact Or.inr rfl), fun _ => Or.inl rfl⟩ (xe_ix c (XE.loose (XN.xe (xn_lst (xa_cons (xe_tup (xa_cons xe_int (xa_cons xe_int xa_nil))) (xa_cons (xe_tup (xa_cons xe_int (xa_cons xe_int xa_nil))) (xa_cons (xe_tup (xa_cons (xe_neg (XE.loose xe_int)) (xa_cons xe_int xa_nil))) (xa_cons (xe_tup (xa_cons xe_int (xa_cons (xe_neg (XE.loose xe_int)) xa_nil))) (xa_cons (xe_tup (xa_cons xe_int (xa_cons xe_int xa_nil))) (xa_cons (xe_tup (xa_cons (xe_neg (XE.loose xe_int)) (xa_cons xe_int xa_nil))) (xa_cons (xe_tup (xa_cons xe_int (xa_cons (xe_neg (XE.loose xe_int)) xa_nil))) (xa_cons (xe_tup (xa_cons (xe_neg (XE.loose xe_int)) (xa_cons (xe_neg (XE.loose xe_int)) xa_nil))) xa_nil))))))))))) (XE.loose (xe_mod c (XE.loose (ye_int c T.n_int (fun _ => rfl) (fun _ => rfl) (xal_cons (XE.loose (xe_ix c (XE.loose (xe_var fun _ => pv 0)) (XE.loose (xe_var fun _ => pv 7)))) xal_nil))) (XE.loose xe_int)))))
    (xss_cons (xs_set ⟨fun _ => nd, fun _ => rfl, fun _ => (by first | exact Or.inl rfl | exact Or.inr rfl), fun _ => Or.inl rfl⟩ (xe_tup (xa_cons (xe_call c (fun _ => G_law_big) (by decide) (fun _ => rfl) (fun _ => T.g_law_big) K_law_big B_law_big .nil (fun _ => rfl) (xa_cons (xe_var fun _ => pv 0) (xa_cons (xe_add c (XE.loose (xe_var fun _ => pv 7)) (XE.loose xe_int)) (xa_cons xe_int (xa_cons (xe_var fun _ => pv 2) xa_nil))))) (xa_cons (xe_call c (fun _ => G_law_big) (by decide) (fun _ => rfl) (fun _ => T.g_law_big) K_law_big B_law_big .nil (fun _ => rfl) (xa_cons (xe_var fun _ => pv 0) (xa_cons (xe_add c (XE.loose (xe_var fun _ => pv 7)) (XE.loose xe_int)) (xa_cons xe_int (xa_cons (xe_var fun _ => pv 3) xa_nil))))) xa_nil))))
    (xss_one (xs_app c (fun _ => pv 5) (xe_add c (XE.loose (xe_add c (XE.loose (xe_add c (XE.loose (xe_tup (xa_cons (xe_call c (fun _ => G_law_name) (by decide) (fun _ => rfl) (fun _ => T.g_law_name) K_law_name B_law_name .nil (fun _ => rfl) (xa_cons (xe_var fun _ => pv 0) (xa_cons xe_int (xa_cons (xe_var fun _ => pv 6) xa_nil)))) xa_nil))) (XE.loose (xe_var fun _ => pv 9)))) (XE.loose (xe_var fun _ => pv 8)))) (XE.loose (xe_tup (xa_cons (xe_call c (fun _ => G_law_big) (by decide) (fun _ => rfl) (fun _ => T.g_law_big) K_law_big B_law_big .nil (fun _ => rfl) (xa_cons (xe_var fun _ => pv 0) (xa_cons (xe_add c (XE.loose (xe_var fun _ => pv 7)) (XE.loose xe_int)) (xa_cons xe_int (xa_cons (xe_pow c (XE.loose xe_int) (XE.loose xe_int)) xa_nil))))) xa_nil))))))))))
    (zss_frz 5 (xss_one (xs_ret (xe_var fun _ => pv 5))))))
theorem sc_law_count : FnScope ["_law_number", "_law_most"] ["_law_number", "_law_most"] (defScope s_law_count) := ⟨rfl, rfl, rfl, by decide +kernel, rfl, by decide +kernel, by decide +kernel⟩
theorem ok_law_count (T : Txt E mg) (hF : ∃ fd, FunD E.K "_law_count" "_law_count" (defArgs s_law_count) (defBody s_law_count) (defScope s_law_count) [] [] (E.cl "_law_count") fd) : FnX P w E mg base 1 (E.cl "_law_count") ["_law_number", "_law_most"] f_law_count := by
  obtain ⟨fd, F⟩ := hF
  have hB : Binds E.K fd ["_law_number", "_law_most"] [] := F.bindsN (fun _ _ _ _ _ _ us hl => match us, hl with | [_, _], _ => rfl)
  refine fnX_mk (m := 2) (k := 0) (p := p_law_count) F sc_law_count rfl rfl hB (fun cdv A outer s H Ex hr => ?_)
  have c := bd_ctx (P := P) (w := w) (E := E) (mg := mg) (base := base) (N := ["_law_number", "_law_most"]) (Ex := Ex) (H := H) (outer := outer) hr
  have nd : (["_law_number", "_law_most"] : List Str).Nodup := sc_law_count.nd
  exact (xss_one (xs_ret (xe_ix c (XE.loose (XN.xe (xn_lst (xa_cons xe_int (xa_cons (xe_var fun _ => pv 1) (xa_cons (xe_mod c (XE.loose (ye_int c T.n_int (fun _ => rfl) (fun _ => rfl) (xal_cons (XE.loose (xe_var fun _ => pv 0)) xal_nil))) (XE.loose (xe_add c (XE.loose (xe_var fun _ => pv 1)) (XE.loose xe_int)))) (xa_cons (xe_mod c (XE.loose (xe_div c (XE.loose (ye_int c T.n_int (fun _ => rfl) (fun _ => rfl) (xal_cons (XE.loose (xe_var fun _ => pv 0)) xal_nil))) (XE.loose xe_int))) (XE.loose (xe_add c (XE.loose (xe_var fun _ => pv 1)) (XE.loose xe_int)))) xa_nil))))))) (XE.loose (xe_mod c (XE.loose (ye_int c T.n_int (fun _ => rfl) (fun _ => rfl) (xal_cons (XE.loose (xe_var fun _ => pv 0)) xal_nil))) (XE.loose xe_int))))))
theorem sc_law_parts : FnScope ["_law_numbers_here", "_law_width", "_law_height"] ["_law_numbers_here"] (defScope s_law_parts) := ⟨rfl, rfl, rfl, by decide +kernel, rfl, by decide +kernel, by decide +kernel⟩
theorem ok_law_parts (T : Txt E mg) (hF : ∃ fd, FunD E.K "_law_parts" "_law_parts" (defArgs s_law_parts) (defBody s_law_parts) (defScope s_law_parts) [] [] (E.cl "_law_parts") fd) (h_law_big : FnX P w E mg base 1 (E.cl "_law_big") ["_law_numbers_here", "_law_at", "_law_least", "_law_most"] f_law_big) (h_law_points : FnX P w E mg base 2 (E.cl "_law_points") ["_law_numbers_here", "_law_at", "_law_width", "_law_height", "_law_many"] f_law_points) (h_law_count : FnX P w E mg base 1 (E.cl "_law_count") ["_law_number", "_law_most"] f_law_count) : FnX P w E mg base 3 (E.cl "_law_parts") ["_law_numbers_here"] f_law_parts := by
  obtain ⟨fd_law_big, G_law_big, B_law_big, K_law_big⟩ := h_law_big.ex
  obtain ⟨fd_law_points, G_law_points, B_law_points, K_law_points⟩ := h_law_points.ex
  obtain ⟨fd_law_count, G_law_count, B_law_count, K_law_count⟩ := h_law_count.ex
  obtain ⟨fd, F⟩ := hF
  have hB : Binds E.K fd ["_law_numbers_here"] [] := F.bindsN (fun _ _ _ _ _ _ us hl => match us, hl with | [_], _ => rfl)
  refine fnX_mk (m := 3) (k := 2) (p := p_law_parts) F sc_law_parts rfl rfl hB (fun cdv A outer s H Ex hr => ?_)
  have c := bd_ctx (P := P) (w := w) (E := E) (mg := mg) (base := base) (N := ["_law_numbers_here", "_law_width", "_law_height"]) (Ex := Ex) (H := H) (outer := outer) hr
  have nd : (["_law_numbers_here", "_law_width", "_law_height"] : List Str).Nodup := sc_law_parts.nd
  exact (xss_cons (xs_set ⟨fun _ => nd, fun _ => rfl, fun _ => (by first | exact Or.inl rfl | exact Or.inr rfl), fun _ => Or.inl rfl⟩ (xe_call c (fun _ => G_law_big) (by decide) (fun _ => rfl) (fun _ => T.g_law_big) K_law_big B_law_big .nil (fun _ => rfl) (xa_cons (xe_var fun _ => pv 0) (xa_cons xe_int (xa_cons xe_int (xa_cons (xe_pow c (XE.loose xe_int) (XE.loose xe_int)) xa_nil))))))
    (xss_cons (xs_set ⟨fun _ => nd, fun _ => rfl, fun _ => (by first | exact Or.inl rfl | exact Or.inr rfl), fun _ => Or.inl rfl⟩ (xe_call c (fun _ => G_law_big) (by decide) (fun _ => rfl) (fun _ => T.g_law_big) K_law_big B_law_big .nil (fun _ => rfl) (xa_cons (xe_var fun _ => pv 0) (xa_cons xe_int (xa_cons xe_int (xa_cons (xe_pow c (XE.loose xe_int) (XE.loose xe_int)) xa_nil))))))
    (xss_one (xs_ret (XN.xe (xn_lst (xa_cons (xe_var fun _ => pv 1) (xa_cons (xe_var fun _ => pv 2) (xa_cons (xe_call c (fun _ => G_law_points) (by decide) (fun _ => rfl) (fun _ => T.g_law_points) K_law_points B_law_points .nil (fun _ => rfl) (xa_cons (xe_var fun _ => pv 0) (xa_cons xe_int (xa_cons (xe_var fun _ => pv 1) (xa_cons (xe_var fun _ => pv 2) (xa_cons (xe_call c (fun _ => G_law_count) (by decide) (fun _ => rfl) (fun _ => T.g_law_count) K_law_count B_law_count .nil (fun _ => rfl) (xa_cons (xe_ix c (XE.loose (xe_var fun _ => pv 0)) (XE.loose xe_int)) (xa_cons xe_int xa_nil))) xa_nil)))))) xa_nil)))))))))
theorem sc_law_made : FnScope ["_law_parts_here"] ["_law_parts_here"] (defScope s_law_made) := ⟨rfl, rfl, rfl, by decide +kernel, rfl, by decide +kernel, by decide +kernel⟩
theorem ok_law_made (T : Txt E mg) (hF : ∃ fd, FunD E.K "_law_made" "_law_made" (defArgs s_law_made) (defBody s_law_made) (defScope s_law_made) [] [] (E.cl "_law_made") fd) (h_Table_init : InX P w E mg base 2 "Table" 3 [.tup []] f_Table_init) : FnX P w E mg base 4 (E.cl "_law_made") ["_law_parts_here"] f_law_made := by
  obtain ⟨a_Table_init, fd_Table_init, ps_Table_init, dv_Table_init, ds_Table_init, G_Table_init, M_Table_init, B_Table_init, V_Table_init, R_Table_init, B2_Table_init⟩ := h_Table_init.ex
  obtain ⟨fd, F⟩ := hF
  have hB : Binds E.K fd ["_law_parts_here"] [] := F.bindsN (fun _ _ _ _ _ _ us hl => match us, hl with | [_], _ => rfl)
  refine fnX_mk (m := 1) (k := 3) (p := p_law_made) F sc_law_made rfl rfl hB (fun cdv A outer s H Ex hr => ?_)
  have c := bd_ctx (P := P) (w := w) (E := E) (mg := mg) (base := base) (N := ["_law_parts_here"]) (Ex := Ex) (H := H) (outer := outer) hr
  have nd : (["_law_parts_here"] : List Str).Nodup := sc_law_made.nd
  exact (xss_one (xs_ret (xe_make c M_Table_init (fun _ => G_Table_init) (by decide) (fun _ => rfl) (fun _ => T.g_Table) B_Table_init .nil (fun _ => rfl) (xa_cons (xe_ix c (XE.loose (xe_var fun _ => pv 0)) (XE.loose xe_int)) (xa_cons (xe_ix c (XE.loose (xe_var fun _ => pv 0)) (XE.loose xe_int)) (xa_cons (XN.xe (yn_list c T.n_list (fun _ => rfl) (fun _ => rfl) (xal_cons (XE.loose (xe_ix c (XE.loose (xe_var fun _ => pv 0)) (XE.loose xe_int))) xal_nil))) xa_nil))))))
theorem sc_law_same : FnScope ["_law_table", "_law_parts_here", "_law_point"] ["_law_table", "_law_parts_here"] (defScope s_law_same) := ⟨rfl, rfl, rfl, by decide +kernel, rfl, by decide +kernel, by decide +kernel⟩
theorem ok_law_same (T : Txt E mg) (hF : ∃ fd, FunD E.K "_law_same" "_law_same" (defArgs s_law_same) (defBody s_law_same) (defScope s_law_same) [] [] (E.cl "_law_same") fd) : FnX P w E mg base 1 (E.cl "_law_same") ["_law_table", "_law_parts_here"] f_law_same := by
  obtain ⟨fd, F⟩ := hF
  have hB : Binds E.K fd ["_law_table", "_law_parts_here"] [] := F.bindsN (fun _ _ _ _ _ _ us hl => match us, hl with | [_, _], _ => rfl)
  refine fnX_mk (m := 3) (k := 0) (p := p_law_same) F sc_law_same rfl rfl hB (fun cdv A outer s H Ex hr => ?_)
  have c := bd_ctx (P := P) (w := w) (E := E) (mg := mg) (base := base) (N := ["_law_table", "_law_parts_here", "_law_point"]) (Ex := Ex) (H := H) (outer := outer) hr
  have nd : (["_law_table", "_law_parts_here", "_law_point"] : List Str).Nodup := sc_law_same.nd
  exact (xss_one (xs_ret (ye_cmp (cmp_eq c) (XE.loose (XN.xe (xn_lst (xa_cons (xe_fld c T.cls_Table (by decide) (XE.loose (xe_var fun _ => pv 0))) (xa_cons (xe_fld c T.cls_Table (by decide) (XE.loose (xe_var fun _ => pv 0))) (xa_cons (xe_fld c T.cls_Table (by decide) (XE.loose (xe_var fun _ => pv 0))) xa_nil)))))) (XE.loose (XN.xe (xn_lst (xa_cons (xe_ix c (XE.loose (xe_var fun _ => pv 1)) (XE.loose xe_int)) (xa_cons (xe_ix c (XE.loose (xe_var fun _ => pv 1)) (XE.loose xe_int)) (xa_cons (ye_tuple c T.n_tuple (fun _ => rfl) (fun _ => rfl) (xal_cons (XE.loose (XN.xe (xn_lc c (fun _ => nd) (xlc (own := ([("_law_point", 2)] : List (Str × Nat))) c (xi_seq c (xe_ix c (XE.loose (xe_var fun _ => pv 1)) (XE.loose xe_int))) (xg_name fun _ => pg_name (i := 2) nd rfl (by first | exact Or.inl rfl | exact Or.inr rfl)) (by decide) xts_nil (ye_tuple (Ctx.blk c _) T.n_tuple (fun _ => rfl) (fun _ => rfl) (xal_cons (XE.loose (xe_var fun _ => pv 2)) xal_nil))) (fun _ => blkOk_by (N := ["_law_table", "_law_parts_here", "_law_point"]) (sc := defScope s_law_same) (by decide +kernel))))) xal_nil)) xa_nil)))))) (nomark _))))
theorem sc_law_bad_name : FnScope ["_law_number", "_law_name_here", "_law_chars", "_law_place"] ["_law_number", "_law_name_here"] (defScope s_law_bad_name) := ⟨rfl, rfl, rfl, by decide +kernel, rfl, by decide +kernel, by decide +kernel⟩
theorem ok_law_bad_name (T : Txt E mg) (hF : ∃ fd, FunD E.K "_law_bad_name" "_law_bad_name" (defArgs s_law_bad_name) (defBody s_law_bad_name) (defScope s_law_bad_name) [] [] (E.cl "_law_bad_name") fd) : FnX P w E mg base 1 (E.cl "_law_bad_name") ["_law_number", "_law_name_here"] f_law_bad_name := by
  obtain ⟨fd, F⟩ := hF
  have hB : Binds E.K fd ["_law_number", "_law_name_here"] [] := F.bindsN (fun _ _ _ _ _ _ us hl => match us, hl with | [_, _], _ => rfl)
  refine fnX_mk (m := 4) (k := 0) (p := p_law_bad_name) F sc_law_bad_name rfl rfl hB (fun cdv A outer s H Ex hr => ?_)
  have c := bd_ctx (P := P) (w := w) (E := E) (mg := mg) (base := base) (N := ["_law_number", "_law_name_here", "_law_chars", "_law_place"]) (Ex := Ex) (H := H) (outer := outer) hr
  have nd : (["_law_number", "_law_name_here", "_law_chars", "_law_place"] : List Str).Nodup := sc_law_bad_name.nd
  exact (xss_cons (xs_if (zt_cmp (cmp_eq c) (XE.loose (xe_mod c (XE.loose (ye_int c T.n_int (fun _ => rfl) (fun _ => rfl) (xal_cons (XE.loose (xe_var fun _ => pv 0)) xal_nil))) (XE.loose xe_int))) (XE.loose xe_int) (nomark _))
    (xss_one (xs_ret xe_str))
    xss_nil)
    (xss_cons (xs_if (zt_cmp (cmp_eq c) (XE.loose (xe_mod c (XE.loose (ye_int c T.n_int (fun _ => rfl) (fun _ => rfl) (xal_cons (XE.loose (xe_var fun _ => pv 0)) xal_nil))) (XE.loose xe_int))) (XE.loose xe_int) (nomark _))
    (xss_one (xs_ret (xe_slice c (XE.loose (xe_add c (XE.loose (xe_var fun _ => pv 1)) (XE.loose xe_str))) xo_none (xo_some (XE.loose xe_int)))))
    xss_nil)
    (xss_cons (xs_if (zt_cmp (cmp_eq c) (XE.loose (xe_mod c (XE.loose (ye_int c T.n_int (fun _ => rfl) (fun _ => rfl) (xal_cons (XE.loose (xe_var fun _ => pv 0)) xal_nil))) (XE.loose xe_int))) (XE.loose xe_int) (nomark _))
    (xss_one (xs_ret (xe_add c (XE.loose (xe_ix c (XE.loose xe_str) (XE.loose (xe_mod c (XE.loose (xe_div c (XE.loose (ye_int c T.n_int (fun _ => rfl) (fun _ => rfl) (xal_cons (XE.loose (xe_var fun _ => pv 0)) xal_nil))) (XE.loose xe_int))) (XE.loose xe_int))))) (XE.loose (xe_slice c (XE.loose (xe_var fun _ => pv 1)) (xo_some (XE.loose xe_int)) xo_none)))))
    xss_nil)
    (xss_cons (xs_set ⟨fun _ => nd, fun _ => rfl, fun _ => (by first | exact Or.inl rfl | exact Or.inr rfl), fun _ => Or.inl rfl⟩ xe_str)
    (xss_cons (xs_set ⟨fun _ => nd, fun _ => rfl, fun _ => (by first | exact Or.inl rfl | exact Or.inr rfl), fun _ => Or.inl rfl⟩ (xe_mod c (XE.loose (xe_div c (XE.loose (ye_int c T.n_int (fun _ => rfl) (fun _ => rfl) (xal_cons (XE.loose (xe_var fun _ => pv 0)) xal_nil))) (XE.loose xe_int))) (XE.loose (ye_len c T.n_len (fun _ => rfl) (fun _ => rfl) (xal_cons (XE.loose (xe_var fun _ => pv 1)) xal_nil)))))
    (xss_one (xs_ret (xe_add c (XE.loose (xe_add c (XE.loose (xe_slice c (XE.loose (xe_var fun _ => pv 1)) xo_none (xo_some (XE.loose (xe_var fun _ => pv 3))))) (XE.loose (xe_ix c (XE.loose (xe_var fun _ => pv 2)) (XE.loose (xe_mod c (XE.loose (xe_div c (XE.loose (ye_int c T.n_int (fun _ => rfl) (fun _ => rfl) (xal_cons (XE.loose (xe_var fun _ => pv 0)) xal_nil))) (XE.loose xe_int))) (XE.loose (ye_len c T.n_len (fun _ => rfl) (fun _ => rfl) (xal_cons (XE.loose (xe_var fun _ => pv 2)) xal_nil))))))))) (XE.loose (xe_slice c (XE.loose (xe_var fun _ => pv 1)) (xo_some (XE.loose (xe_add c (XE.loose (xe_var fun _ => pv 3)) (XE.loose xe_int)))) xo_none))))))))))
theorem sc_law_checked : FnScope ["_law_table", "_law_given", "_law_many", "e"] ["_law_table", "_law_given", "_law_many"] (defScope s_law_checked) := ⟨rfl, rfl, rfl, by decide +kernel, rfl, by decide +kernel, by decide +kernel⟩
theorem ok_law_checked (T : Txt E mg) (hF : ∃ fd, FunD E.K "_law_checked" "_law_checked" (defArgs s_law_checked) (defBody s_law_checked) (defScope s_law_checked) [] [] (E.cl "_law_checked") fd) (h_check_balls : FnX P w E mg base 4 (E.cl "check_balls") ["table", "balls"] f_check_balls) (h_check_ball : FnX P w E mg base 3 (E.cl "check_ball") ["table", "ball"] f_check_ball) : FnX P w E mg base 5 (E.cl "_law_checked") ["_law_table", "_law_given", "_law_many"] f_law_checked := by
  obtain ⟨fd_check_balls, G_check_balls, B_check_balls, K_check_balls⟩ := h_check_balls.ex
  obtain ⟨fd_check_ball, G_check_ball, B_check_ball, K_check_ball⟩ := h_check_ball.ex
  obtain ⟨fd, F⟩ := hF
  have hB : Binds E.K fd ["_law_table", "_law_given", "_law_many"] [] := F.bindsN (fun _ _ _ _ _ _ us hl => match us, hl with | [_, _, _], _ => rfl)
  refine fnX_mk (m := 4) (k := 4) (p := p_law_checked) F sc_law_checked rfl rfl hB (fun cdv A outer s H Ex hr => ?_)
  have c := bd_ctx (P := P) (w := w) (E := E) (mg := mg) (base := base) (N := ["_law_table", "_law_given", "_law_many", "e"]) (Ex := Ex) (H := H) (outer := outer) hr
  have nd : (["_law_table", "_law_given", "_law_many", "e"] : List Str).Nodup := sc_law_checked.nd
  exact (xss_one (xs_tryAs (q := (qsel [("InvalidBall", h_law_checked_0)])) c (fun C => List.lookup C [("CushionedError", false), ("InvalidTable", false), ("InvalidBall", true)]) (fun _ => rfl) (fun _ => rfl) (fun _ => nd) (fun _ => rfl) (fun _ => rfl) (fun _ => ⟨rfl, by decide, .inl T.g_InvalidBall⟩) (cat_ok (cat_cons T.e_CushionedError_InvalidBall (cat_cons T.e_InvalidTable_InvalidBall (cat_cons T.e_InvalidBall_InvalidBall cat_nil)))) T.inj0 (fun W1 => (xss_cons (xs_if (zt_val (XE.loose (xe_var fun _ => pv 2)) (Ctx.tr c W1))
    (xss_one (xs_ret (ye_cmp (cmp_is (Ctx.tr c W1)) (XE.loose (xe_call (Ctx.tr c W1) (fun _ => G_check_balls) (by decide) (fun _ => rfl) (fun _ => T.g_check_balls) K_check_balls B_check_balls .nil (fun _ => rfl) (xa_cons (xe_var fun _ => pv 0) (xa_cons (xe_var fun _ => pv 1) xa_nil)))) (XE.loose xe_non) (nomark _))))
    xss_nil)
    (xss_one (xs_ret (ye_cmp (cmp_is (Ctx.tr c W1)) (XE.loose (xe_call (Ctx.tr c W1) (fun _ => G_check_ball) (by decide) (fun _ => rfl) (fun _ => T.g_check_ball) K_check_ball B_check_ball .nil (fun _ => rfl) (xa_cons (xe_var fun _ => pv 0) (xa_cons (xe_var fun _ => pv 1) xa_nil)))) (XE.loose xe_non) (nomark _))))))
    (su_no (su_no (su_yes2 rfl (fun a => (xss_one (xs_ret (xe_ix (Ctx.su c (E.cl "InvalidBall") a) (XE.loose (XN.xe (xn_lst (xa_cons xe_str (xa_cons xe_str xa_nil))))) (XE.loose (ye_int (Ctx.su c (E.cl "InvalidBall") a) T.n_int (fun _ => rfl) (fun _ => rfl) (xal_cons (XE.loose (xe_and (xe_isE (v := .ref (E.cl "CushionedError")) (cv := .ref (E.cl "CushionedError")) (Ctx.su c (E.cl "InvalidBall") a) T.xi_InvalidBall (fun _ => pv 3) (fun _ => pe_glob rfl T.g_CushionedError rfl (by decide)) (fun _ h => h) T.k_InvalidBall_CushionedError (fun _ => rfl) (fun _ => T.n_isinstance)) (xe_and (xe_isE (v := .ty "ValueError") (cv := .type "ValueError") (Ctx.su c (E.cl "InvalidBall") a) T.xi_InvalidBall (fun _ => pv 3) (fun _ => pe_ty rfl T.n_ValueError (by decide +kernel)) (fun _ h => h) T.k_InvalidBall_ValueError (fun _ => rfl) (fun _ => T.n_isinstance)) (xe_one (xe_not (xe_isE (v := .ref (E.cl "InvalidTable")) (cv := .ref (E.cl "InvalidTable")) (Ctx.su c (E.cl "InvalidBall") a) T.xi_InvalidBall (fun _ => pv 3) (fun _ => pe_glob rfl T.g_InvalidTable rfl (by decide)) (fun _ h => h) T.k_InvalidBall_InvalidTable (fun _ => rfl) (fun _ => T.n_isinstance))))))) xal_nil))))))) su_nil)))))
theorem sc_law_spoilt : FnScope ["_law_table", "_law_ball", "_law_choice", "_law_number", "_law_name_here", "_law_x", "_law_y", "_law_dx", "_law_dy", "_law_minute"] ["_law_table", "_law_ball", "_law_choice", "_law_number"] (defScope s_law_spoilt) := ⟨rfl, rfl, rfl, by decide +kernel, rfl, by decide +kernel, by decide +kernel⟩
theorem ok_law_spoilt (T : Txt E mg) (hF : ∃ fd, FunD E.K "_law_spoilt" "_law_spoilt" (defArgs s_law_spoilt) (defBody s_law_spoilt) (defScope s_law_spoilt) [] [] (E.cl "_law_spoilt") fd) (h_law_bad_name : FnX P w E mg base 1 (E.cl "_law_bad_name") ["_law_number", "_law_name_here"] f_law_bad_name) : FnX P w E mg base 2 (E.cl "_law_spoilt") ["_law_table", "_law_ball", "_law_choice", "_law_number"] f_law_spoilt := by
  obtain ⟨fd_law_bad_name, G_law_bad_name, B_law_bad_name, K_law_bad_name⟩ := h_law_bad_name.ex
  obtain ⟨fd, F⟩ := hF
  have hB : Binds E.K fd ["_law_table", "_law_ball", "_law_choice", "_law_number"] [] := F.bindsN (fun _ _ _ _ _ _ us hl => match us, hl with | [_, _, _, _], _ => rfl)
  refine fnX_mk (m := 10) (k := 1) (p := p_law_spoilt) F sc_law_spoilt rfl rfl hB (fun cdv A outer s H Ex hr => ?_)
  have c := bd_ctx (P := P) (w := w) (E := E) (mg := mg) (base := base) (N := ["_law_table", "_law_ball", "_law_choice", "_law_number", "_law_name_here", "_law_x", "_law_y", "_law_dx", "_law_dy", "_law_minute"]) (Ex := Ex) (H := H) (outer := outer) hr
  have nd : (["_law_table", "_law_ball", "_law_choice", "_law_number", "_law_name_here", "_law_x", "_law_y", "_law_dx", "_law_dy", "_law_minute"] : List Str).Nodup := sc_law_spoilt.nd
  exact (xss_cons (xs_asg (xe_var fun _ => pv 1) (xg_tup c (xgs_cons (xg_name fun _ => pg_name (i := 4) nd rfl (by first | exact Or.inl rfl | exact Or.inr rfl)) (xgs_cons (xg_name fun _ => pg_name (i := 5) nd rfl (by first | exact Or.inl rfl | exact Or.inr rfl)) (xgs_cons (xg_name fun _ => pg_name (i := 6) nd rfl (by first | exact Or.inl rfl | exact Or.inr rfl)) (xgs_cons (xg_name fun _ => pg_name (i := 7) nd rfl (by first | exact Or.inl rfl | exact Or.inr rfl)) (xgs_cons (xg_name fun _ => pg_name (i := 8) nd rfl (by first | exact Or.inl rfl | exact Or.inr rfl)) (xgs_cons (xg_name fun _ => pg_name (i := 9) nd rfl (by first | exact Or.inl rfl | exact Or.inr rfl)) xgs_nil)))))) (gs_lenS (gs_lenS (gs_lenS (gs_lenS (gs_lenS (gs_lenS gs_len0))))))))
    (xss_cons (xs_if (zt_cmp (cmp_eq c) (XE.loose (xe_var fun _ => pv 2)) (XE.loose xe_int) (nomark _))
    (xss_one (xs_ret (xe_ix c (XE.loose (XN.xe (xn_lst (xa_cons (xe_slice c (XE.loose (xe_var fun _ => pv 1)) xo_none (xo_some (XE.loose xe_int))) (xa_cons (xe_add c (XE.loose (xe_var fun _ => pv 1)) (XE.loose (xe_tup (xa_cons xe_int xa_nil)))) (xa_cons (xe_slice c (XE.loose (xe_var fun _ => pv 1)) xo_none (xo_some (XE.loose xe_int))) (xa_cons (xe_tup xa_nil) xa_nil))))))) (XE.loose (xe_mod c (XE.loose (xe_var fun _ => pv 3)) (XE.loose xe_int))))))
    xss_nil)
    (xss_cons (xs_if (zt_cmp (cmp_eq c) (XE.loose (xe_var fun _ => pv 2)) (XE.loose xe_int) (nomark _))
    (xss_one (xs_ret (xe_tup (xa_cons (xe_call c (fun _ => G_law_bad_name) (by decide) (fun _ => rfl) (fun _ => T.g_law_bad_name) K_law_bad_name B_law_bad_name .nil (fun _ => rfl) (xa_cons (xe_var fun _ => pv 3) (xa_cons (xe_var fun _ => pv 4) xa_nil))) (xa_cons (xe_var fun _ => pv 5) (xa_cons (xe_var fun _ => pv 6) (xa_cons (xe_var fun _ => pv 7) (xa_cons (xe_var fun _ => pv 8) (xa_cons (xe_var fun _ => pv 9) xa_nil)))))))))
    xss_nil)
    (xss_cons (xs_if (zt_cmp (cmp_eq c) (XE.loose (xe_var fun _ => pv 2)) (XE.loose xe_int) (nomark _))
    (xss_one (xs_ret (xe_tup (xa_cons (xe_var fun _ => pv 4) (xa_cons (xe_ix c (XE.loose (XN.xe (xn_lst (xa_cons (xe_neg (XE.loose xe_int)) (xa_cons (xe_add c (XE.loose (xe_fld c T.cls_Table (by decide) (XE.loose (xe_var fun _ => pv 0)))) (XE.loose xe_int)) (xa_cons (xe_sub c (XE.loose (xe_neg (XE.loose xe_int))) (XE.loose (xe_var fun _ => pv 3))) (xa_cons (xe_add c (XE.loose (xe_add c (XE.loose (xe_fld c T.cls_Table (by decide) (XE.loose (xe_var fun _ => pv 0)))) (XE.loose xe_int))) (XE.loose (xe_var fun _ => pv 3))) xa_nil))))))) (XE.loose (xe_mod c (XE.loose (xe_var fun _ => pv 3)) (XE.loose xe_int)))) (xa_cons (xe_var fun _ => pv 6) (xa_cons (xe_var fun _ => pv 7) (xa_cons (xe_var fun _ => pv 8) (xa_cons (xe_var fun _ => pv 9) xa_nil)))))))))
    xss_nil)
    (xss_cons (xs_if (zt_cmp (cmp_eq c) (XE.loose (xe_var fun _ => pv 2)) (XE.loose xe_int) (nomark _))
    (xss_one (xs_ret (xe_tup (xa_cons (xe_var fun _ => pv 4) (xa_cons (xe_var fun _ => pv 5) (xa_cons (xe_ix c (XE.loose (XN.xe (xn_lst (xa_cons (xe_neg (XE.loose xe_int)) (xa_cons (xe_add c (XE.loose (xe_fld c T.cls_Table (by decide) (XE.loose (xe_var fun _ => pv 0)))) (XE.loose xe_int)) (xa_cons (xe_sub c (XE.loose (xe_neg (XE.loose xe_int))) (XE.loose (xe_var fun _ => pv 3))) (xa_cons (xe_add c (XE.loose (xe_add c (XE.loose (xe_fld c T.cls_Table (by decide) (XE.loose (xe_var fun _ => pv 0)))) (XE.loose xe_int))) (XE.loose (xe_var fun _ => pv 3))) xa_nil))))))) (XE.loose (xe_mod c (XE.loose (xe_var fun _ => pv 3)) (XE.loose xe_int)))) (xa_cons (xe_var fun _ => pv 7) (xa_cons (xe_var fun _ => pv 8) (xa_cons (xe_var fun _ => pv 9) xa_nil)))))))))
    xss_nil)
    (xss_cons (xs_if (zt_cmp (cmp_eq c) (XE.loose (xe_var fun _ => pv 2)) (XE.loose xe_int) (nomark _))
    (xss_one (xs_ret (xe_ix c (XE.loose (XN.xe (xn_lst (xa_cons (xe_tup (xa_cons (xe_var fun _ => pv 4) (xa_cons (xe_var fun _ => pv 5) (xa_cons (xe_var fun _ => pv 6) (xa_cons xe_int (xa_cons xe_int (xa_cons (xe_var fun _ => pv 9) xa_nil))))))) (xa_cons (xe_tup (xa_cons (xe_var fun _ => pv 4) (xa_cons (xe_var fun _ => pv 5) (xa_cons (xe_var fun _ => pv 6) (xa_cons xe_int (xa_cons (xe_var fun _ => pv 8) (xa_cons (xe_var fun _ => pv 9) xa_nil))))))) (xa_cons (xe_tup (xa_cons (xe_var fun _ => pv 4) (xa_cons (xe_var fun _ => pv 5) (xa_cons (xe_var fun _ => pv 6) (xa_cons (xe_neg (XE.loose xe_int)) (xa_cons (xe_var fun _ => pv 8) (xa_cons (xe_var fun _ => pv 9) xa_nil))))))) (xa_cons (xe_tup (xa_cons (xe_var fun _ => pv 4) (xa_cons (xe_var fun _ => pv 5) (xa_cons (xe_var fun _ => pv 6) (xa_cons (xe_var fun _ => pv 7) (xa_cons xe_int (xa_cons (xe_var fun _ => pv 9) xa_nil))))))) xa_nil))))))) (XE.loose (xe_mod c (XE.loose (xe_var fun _ => pv 3)) (XE.loose xe_int))))))
    xss_nil)
    (xss_cons (xs_if (zt_cmp (cmp_eq c) (XE.loose (xe_var fun _ => pv 2)) (XE.loose xe_int) (nomark _))
    (xss_one (xs_ret (xe_ix c (XE.loose (XN.xe (xn_lst (xa_cons (xe_tup (xa_cons (xe_var fun _ => pv 4) (xa_cons (xe_var fun _ => pv 5) (xa_cons (xe_var fun _ => pv 6) (xa_cons (xe_var fun _ => pv 7) (xa_cons (xe_neg (XE.loose xe_int)) (xa_cons (xe_var fun _ => pv 9) xa_nil))))))) (xa_cons (xe_tup (xa_cons (xe_var fun _ => pv 4) (xa_cons (xe_var fun _ => pv 5) (xa_cons (xe_var fun _ => pv 6) (xa_cons (xe_var fun _ => pv 7) (xa_cons (xe_add c (XE.loose (xe_add c (XE.loose xe_int) (XE.loose (xe_mod c (XE.loose (xe_var fun _ => pv 3)) (XE.loose xe_int))))) (XE.loose xe_int)) (xa_cons (xe_var fun _ => pv 9) xa_nil))))))) xa_nil))))) (XE.loose (xe_mod c (XE.loose (xe_var fun _ => pv 3)) (XE.loose xe_int))))))
    xss_nil)
    (xss_one (xs_ret (xe_tup (xa_cons (xe_var fun _ => pv 4) (xa_cons (xe_var fun _ => pv 5) (xa_cons (xe_var fun _ => pv 6) (xa_cons (xe_var fun _ => pv 7) (xa_cons (xe_var fun _ => pv 8) (xa_cons (xe_ix c (XE.loose (XN.xe (xn_lst (xa_cons (xe_neg (XE.loose xe_int)) (xa_cons (xe_add c (XE.loose (xe_pow c (XE.loose xe_int) (XE.loose xe_int))) (XE.loose xe_int)) (xa_cons (xe_sub c (XE.loose (xe_neg (XE.loose xe_int))) (XE.loose (xe_var fun _ => pv 3))) (xa_cons (xe_add c (XE.loose (xe_add c (XE.loose (xe_pow c (XE.loose xe_int) (XE.loose xe_int))) (XE.loose xe_int))) (XE.loose (xe_var fun _ => pv 3))) xa_nil))))))) (XE.loose (xe_mod c (XE.loose (xe_var fun _ => pv 3)) (XE.loose xe_int)))) xa_nil))))))))))))))))
theorem sc_law : FnScope ["_law_script", "_law_numbers_here", "_law_parts_here", "_law_table", "_law_balls_here", "_law_ball", "_law_first", "_law_number", "_law_bad", "_law_kept", "_law_at", "_law_double", "_law_names", "_law_k", "_law_name_here"] ["_law_script"] (defScope s_law) := ⟨rfl, rfl, rfl, by decide +kernel, rfl, by decide +kernel, by decide +kernel⟩
theorem ok_law1 {fd : FuncData} (T : Txt E mg) (F : FunD E.K "law" "law" (defArgs s_law) (defBody s_law) (defScope s_law) [] [] (E.cl "law") fd) (h_law_numbers : FnX P w E mg base 2 (E.cl "_law_numbers") ["_law_script", "_law_many"] f_law_numbers) (h_law_parts : FnX P w E mg base 3 (E.cl "_law_parts") ["_law_numbers_here"] f_law_parts) (h_law_made : FnX P w E mg base 4 (E.cl "_law_made") ["_law_parts_here"] f_law_made) (h_law_balls : FnX P w E mg base 2 (E.cl "_law_balls") ["_law_numbers_here", "_law_at", "_law_width", "_law_height", "_law_many"] f_law_balls) (h_law_count : FnX P w E mg base 1 (E.cl "_law_count") ["_law_number", "_law_most"] f_law_count) (h_law_checked : FnX P w E mg base 5 (E.cl "_law_checked") ["_law_table", "_law_given", "_law_many"] f_law_checked) (h_is_ball : FnX P w E mg base 2 (E.cl "is_ball") ["table", "ball"] f_is_ball) (h_law_spoilt : FnX P w E mg base 2 (E.cl "_law_spoilt") ["_law_table", "_law_ball", "_law_choice", "_law_number"] f_law_spoilt) : FnOk P w E.K mg base (L2.CX P w) 6 (E.cl "law") fd ["_law_script"] (spF E 1 f_law) := by
  obtain ⟨fd_law_numbers, G_law_numbers, B_law_numbers, K_law_numbers⟩ := h_law_numbers.ex
  obtain ⟨fd_law_parts, G_law_parts, B_law_parts, K_law_parts⟩ := h_law_parts.ex
  obtain ⟨fd_law_made, G_law_made, B_law_made, K_law_made⟩ := h_law_made.ex
  obtain ⟨fd_law_balls, G_law_balls, B_law_balls, K_law_balls⟩ := h_law_balls.ex
  obtain ⟨fd_law_count, G_law_count, B_law_count, K_law_count⟩ := h_law_count.ex
  obtain ⟨fd_law_checked, G_law_checked, B_law_checked, K_law_checked⟩ := h_law_checked.ex
  obtain ⟨fd_is_ball, G_is_ball, B_is_ball, K_is_ball⟩ := h_is_ball.ex
  obtain ⟨fd_law_spoilt, G_law_spoilt, B_law_spoilt, K_law_spoilt⟩ := h_law_spoilt.ex
  refine fnOk_mk (m := 15) (k := 5) (p := p_law) F sc_law rfl rfl rfl (fun cdv A outer s H Ex hr => ?_)
  have c := bd_ctx (P := P) (w := w) (E := E) (mg := mg) (base := base) (N := ["_law_script", "_law_numbers_here", "_law_parts_here", "_law_table", "_law_balls_here", "_law_ball", "_law_first", "_law_number", "_law_bad", "_law_kept", "_law_at", "_law_double", "_law_names", "_law_k", "_law_name_here"]) (Ex := Ex) (H := H) (outer := outer) hr
  have nd : (["_law_script", "_law_numbers_here", "_law_parts_here", "_law_table", "_law_balls_here", "_law_ball", "_law_first", "_law_number", "_law_bad", "_law_kept", "_law_at", "_law_double", "_law_names", "_law_k", "_law_name_here"] : List Str).Nodup := sc_law.nd
  exact (xss_cons (xs_set ⟨fun _ => nd, fun _ => rfl, fun _ => (by first | exact Or.inl rfl | exact Or.inr rfl), fun _ => Or.inl rfl⟩ (xe_call c (fun _ => G_law_numbers) (by decide) (fun _ => rfl) (fun _ => T.g_law_numbers) K_law_numbers B_law_numbers .nil (fun _ => rfl) (xa_cons (xe_var fun _ => pv 0) (xa_cons xe_int xa_nil))))
    (xss_cons (xs_set ⟨fun _ => nd, fun _ => rfl, fun _ => (by first | exact Or.inl rfl | exact Or.inr rfl), fun _ => Or.inl rfl⟩ (xe_call c (fun _ => G_law_parts) (by decide) (fun _ => rfl) (fun _ => T.g_law_parts) K_law_parts B_law_parts .nil (fun _ => rfl) (xa_cons (xe_var fun _ => pv 1) xa_nil)))
    (xss_cons (xs_set ⟨fun _ => nd, fun _ => rfl, fun _ => (by first | exact Or.inl rfl | exact Or.inr rfl), fun _ => Or.inl rfl⟩ (xe_call c (fun _ => G_law_made) (by decide) (fun _ => rfl) (fun _ => T.g_law_made) K_law_made B_law_made .nil (fun _ => rfl) (xa_cons (xe_var fun _ => pv 2) xa_nil)))
    (xss_cons (xs_set ⟨fun _ => nd, fun _ => rfl, fun _ => (by first | exact Or.inl rfl | exact Or.inr rfl), fun _ => Or.inl rfl⟩ (xe_call c (fun _ => G_law_balls) (by decide) (fun _ => rfl) (fun _ => T.g_law_balls) K_law_balls B_law_balls .nil (fun _ => rfl) (xa_cons (xe_var fun _ => pv 1) (xa_cons xe_int (xa_cons (xe_ix c (XE.loose (xe_var fun _ => pv 2)) (XE.loose xe_int)) (xa_cons (xe_ix c (XE.loose (xe_var fun _ => pv 2)) (XE.loose xe_int)) (xa_cons (xe_call c (fun _ => G_law_count) (by decide) (fun _ => rfl) (fun _ => T.g_law_count) K_law_count B_law_count .nil (fun _ => rfl) (xa_cons (xe_ix c (XE.loose (xe_var fun _ => pv 1)) (XE.loose xe_int)) (xa_cons xe_int xa_nil))) xa_nil)))))))
    (xss_cons (xs_if (zt_cmp (cmp_isNotB c) (XE.loose (xe_call c (fun _ => G_law_checked) (by decide) (fun _ => rfl) (fun _ => T.g_law_checked) K_law_checked B_law_checked .nil (fun _ => rfl) (xa_cons (xe_var fun _ => pv 3) (xa_cons (xe_var fun _ => pv 4) (xa_cons xe_bl xa_nil))))) (XE.loose xe_bl) (nomark _))
    (xss_one (xs_ret xe_bl))
    xss_nil)
    (xss_cons (xs_for c (xi_seq c (xe_var fun _ => pv 4)) (xg_name fun _ => pg_name (i := 5) nd rfl (by first | exact Or.inl rfl | exact Or.inr rfl))
    (xss_one (xs_if (xw_pt (xw_or (zt_cmp (cmp_isNotB c) (XE.loose (xe_call c (fun _ => G_is_ball) (by decide) (fun _ => rfl) (fun _ => T.g_is_ball) K_is_ball B_is_ball .nil (fun _ => rfl) (xa_cons (xe_var fun _ => pv 3) (xa_cons (xe_var fun _ => pv 5) xa_nil)))) (XE.loose xe_bl) (nomark _)) (xw_or1 (zt_cmp (cmp_isNotB c) (XE.loose (xe_call c (fun _ => G_law_checked) (by decide) (fun _ => rfl) (fun _ => T.g_law_checked) K_law_checked B_law_checked .nil (fun _ => rfl) (xa_cons (xe_var fun _ => pv 3) (xa_cons (xe_var fun _ => pv 5) (xa_cons xe_bl xa_nil))))) (XE.loose xe_bl) (nomark _)))))
    (xss_one (xs_ret xe_bl))
    xss_nil)))
    (xss_cons (xs_set ⟨fun _ => nd, fun _ => rfl, fun _ => (by first | exact Or.inl rfl | exact Or.inr rfl), fun _ => Or.inl rfl⟩ (xe_ix c (XE.loose (xe_call c (fun _ => G_law_balls) (by decide) (fun _ => rfl) (fun _ => T.g_law_balls) K_law_balls B_law_balls .nil (fun _ => rfl) (xa_cons (xe_var fun _ => pv 1) (xa_cons xe_int (xa_cons (xe_ix c (XE.loose (xe_var fun _ => pv 2)) (XE.loose xe_int)) (xa_cons (xe_ix c (XE.loose (xe_var fun _ => pv 2)) (XE.loose xe_int)) (xa_cons xe_int xa_nil))))))) (XE.loose xe_int)))
    (xss_cons (xs_set ⟨fun _ => nd, fun _ => rfl, fun _ => (by first | exact Or.inl rfl | exact Or.inr rfl), fun _ => Or.inl rfl⟩ (ye_int c T.n_int (fun _ => rfl) (fun _ => rfl) (xal_cons (XE.loose (xe_ix c (XE.loose (xe_var fun _ => pv 1)) (XE.loose xe_int))) xal_nil)))
    (xss_cons (xs_set ⟨fun _ => nd, fun _ => rfl, fun _ => (by first | exact Or.inl rfl | exact Or.inr rfl), fun _ => Or.inl rfl⟩ (xe_call c (fun _ => G_law_spoilt) (by decide) (fun _ => rfl) (fun _ => T.g_law_spoilt) K_law_spoilt B_law_spoilt .nil (fun _ => rfl) (xa_cons (xe_var fun _ => pv 3) (xa_cons (xe_var fun _ => pv 6) (xa_cons (xe_mod c (XE.loose (ye_int c T.n_int (fun _ => rfl) (fun _ => rfl) (xal_cons (XE.loose (xe_ix c (XE.loose (xe_var fun _ => pv 1)) (XE.loose xe_int))) xal_nil))) (XE.loose xe_int)) (xa_cons (xe_var fun _ => pv 7) xa_nil))))))
    (xss_cons (xs_if (xw_pt (xw_or (zt_cmp (cmp_isNotB c) (XE.loose (xe_call c (fun _ => G_is_ball) (by decide) (fun _ => rfl) (fun _ => T.g_is_ball) K_is_ball B_is_ball .nil (fun _ => rfl) (xa_cons (xe_var fun _ => pv 3) (xa_cons (xe_var fun _ => pv 8) xa_nil)))) (XE.loose xe_bl) (nomark _)) (xw_or1 (zt_cmp (cmp_ne c) (XE.loose (xe_call c (fun _ => G_law_checked) (by decide) (fun _ => rfl) (fun _ => T.g_law_checked) K_law_checked B_law_checked .nil (fun _ => rfl) (xa_cons (xe_var fun _ => pv 3) (xa_cons (xe_var fun _ => pv 8) (xa_cons xe_bl xa_nil))))) (XE.loose xe_str) (nomark _)))))
    (xss_one (xs_ret xe_bl))
    xss_nil)
    (xss_cons (xs_setLc c ⟨fun _ => nd, fun _ => rfl, fun _ => (by first | exact Or.inl rfl | exact Or.inr rfl), fun _ => Or.inl rfl⟩ (fun _ => rfl) (xlc (own := ([("_law_ball", 5)] : List (Str × Nat))) c (xi_seq c (xe_slice c (XE.loose (xe_var fun _ => pv 4)) xo_none (xo_some (XE.loose xe_int)))) (xg_name fun _ => pg_name (i := 5) nd rfl (by first | exact Or.inl rfl | exact Or.inr rfl)) (by decide) (xts_one (zt_cmp (cmp_ne (Ctx.blk c _)) (XE.loose (xe_ix (Ctx.blk c _) (XE.loose (xe_var fun _ => pv 5)) (XE.loose xe_int))) (XE.loose (xe_ix (Ctx.blk c _) (XE.loose (xe_var fun _ => pv 6)) (XE.loose xe_int))) (nomark _))) (xe_var fun _ => pv 5)) (fun _ => blkOk_by (N := ["_law_script", "_law_numbers_here", "_law_parts_here", "_law_table", "_law_balls_here", "_law_ball", "_law_first", "_law_number", "_law_bad", "_law_kept", "_law_at", "_law_double", "_law_names", "_law_k", "_law_name_here"]) (sc := defScope s_law) (by decide +kernel)) (fun _ => sw_true rfl rfl rfl (by decide +kernel)))
    (xss_cons (xs_set ⟨fun _ => nd, fun _ => rfl, fun _ => (by first | exact Or.inl rfl | exact Or.inr rfl), fun _ => Or.inl rfl⟩ (xe_mod c (XE.loose (ye_int c T.n_int (fun _ => rfl) (fun _ => rfl) (xal_cons (XE.loose (xe_ix c (XE.loose (xe_var fun _ => pv 1)) (XE.loose xe_int))) xal_nil))) (XE.loose (xe_add c (XE.loose (ye_len c T.n_len (fun _ => rfl) (fun _ => rfl) (xal_cons (XE.loose (xe_var fun _ => pv 9)) xal_nil))) (XE.loose xe_int)))))
    (xss_cons (xs_if (zt_cmp (cmp_ne c) (XE.loose (xe_call c (fun _ => G_law_checked) (by decide) (fun _ => rfl) (fun _ => T.g_law_checked) K_law_checked B_law_checked .nil (fun _ => rfl) (xa_cons (xe_var fun _ => pv 3) (xa_cons (xe_add c (XE.loose (xe_add c (XE.loose (xe_slice c (XE.loose (xe_var fun _ => pv 9)) xo_none (xo_some (XE.loose (xe_var fun _ => pv 10))))) (XE.loose (XN.xe (xn_lst (xa_cons (xe_var fun _ => pv 8) xa_nil)))))) (XE.loose (xe_slice c (XE.loose (xe_var fun _ => pv 9)) (xo_some (XE.loose (xe_var fun _ => pv 10))) xo_none))) (xa_cons xe_bl xa_nil))))) (XE.loose xe_str) (nomark _))
    (xss_one (xs_ret xe_bl))
    xss_nil)
    (xss_cons (xs_if (zt_cmp (cmp_gt c) (XE.loose (ye_len c T.n_len (fun _ => rfl) (fun _ => rfl) (xal_cons (XE.loose (xe_var fun _ => pv 9)) xal_nil))) (XE.loose xe_int) (nomark _))
    (xss_cons (xs_set ⟨fun _ => nd, fun _ => rfl, fun _ => (by first | exact Or.inl rfl | exact Or.inr rfl), fun _ => Or.inl rfl⟩ (xe_add c (XE.loose (xe_tup (xa_cons (xe_ix c (XE.loose (xe_ix c (XE.loose (xe_var fun _ => pv 9)) (XE.loose (xe_mod c (XE.loose (xe_var fun _ => pv 7)) (XE.loose (ye_len c T.n_len (fun _ => rfl) (fun _ => rfl) (xal_cons (XE.loose (xe_var fun _ => pv 9)) xal_nil))))))) (XE.loose xe_int)) xa_nil))) (XE.loose (xe_slice c (XE.loose (xe_var fun _ => pv 6)) (xo_some (XE.loose xe_int)) xo_none))))
    (xss_one (xs_if (zt_cmp (cmp_ne c) (XE.loose (xe_call c (fun _ => G_law_checked) (by decide) (fun _ => rfl) (fun _ => T.g_law_checked) K_law_checked B_law_checked .nil (fun _ => rfl) (xa_cons (xe_var fun _ => pv 3) (xa_cons (xe_add c (XE.loose (xe_add c (XE.loose (xe_slice c (XE.loose (xe_var fun _ => pv 9)) xo_none (xo_some (XE.loose (xe_var fun _ => pv 10))))) (XE.loose (XN.xe (xn_lst (xa_cons (xe_var fun _ => pv 11) xa_nil)))))) (XE.loose (xe_slice c (XE.loose (xe_var fun _ => pv 9)) (xo_some (XE.loose (xe_var fun _ => pv 10))) xo_none))) (xa_cons xe_bl xa_nil))))) (XE.loose xe_str) (nomark _))
    (xss_one (xs_ret xe_bl))
    xss_nil)))
    xss_nil)
    (xss_cons (xs_if (zt_cmp (cmp_isNotB c) (XE.loose (xe_call c (fun _ => G_law_checked) (by decide) (fun _ => rfl) (fun _ => T.g_law_checked) K_law_checked B_law_checked .nil (fun _ => rfl) (xa_cons (xe_var fun _ => pv 3) (xa_cons (XN.xe (xn_lst (xa_cons (xe_add c (XE.loose (xe_tup (xa_cons xe_str xa_nil))) (XE.loose (xe_slice c (XE.loose (xe_var fun _ => pv 6)) (xo_some (XE.loose xe_int)) xo_none))) (xa_cons (xe_add c (XE.loose (xe_tup (xa_cons xe_str xa_nil))) (XE.loose (xe_slice c (XE.loose (xe_var fun _ => pv 6)) (xo_some (XE.loose xe_int)) xo_none))) (xa_cons (xe_add c (XE.loose (xe_tup (xa_cons xe_str xa_nil))) (XE.loose (xe_slice c (XE.loose (xe_var fun _ => pv 6)) (xo_some (XE.loose xe_int)) xo_none))) xa_nil))))) (xa_cons xe_bl xa_nil))))) (XE.loose xe_bl) (nomark _))
    (xss_one (xs_ret xe_bl))
    xss_nil)
    (xss_cons (xs_setLc c ⟨fun _ => nd, fun _ => rfl, fun _ => (by first | exact Or.inl rfl | exact Or.inr rfl), fun _ => Or.inl rfl⟩ (fun _ => rfl) (xlc (own := ([("_law_k", 13)] : List (Str × Nat))) c (xi_range1 (fun _ => rfl) (fun _ => T.n_range) (xal_cons (XE.loose xe_int) xal_nil)) (xg_name fun _ => pg_name (i := 13) nd rfl (by first | exact Or.inl rfl | exact Or.inr rfl)) (by decide) xts_nil (xe_add (Ctx.blk c _) (XE.loose (xe_add (Ctx.blk c _) (XE.loose xe_str) (XE.loose (ye_str (Ctx.blk c _) T.n_str (fun _ => rfl) (fun _ => rfl) (xal_cons (XE.loose (xe_var fun _ => pv 13)) xal_nil))))) (XE.loose xe_str))) (fun _ => blkOk_by (N := ["_law_script", "_law_numbers_here", "_law_parts_here", "_law_table", "_law_balls_here", "_law_ball", "_law_first", "_law_number", "_law_bad", "_law_kept", "_law_at", "_law_double", "_law_names", "_law_k", "_law_name_here"]) (sc := defScope s_law) (by decide +kernel)) (fun _ => sw_true rfl rfl rfl (by decide +kernel)))
    (xss_cons (xs_if (zt_cmp (cmp_ne c) (XE.loose (xe_call c (fun _ => G_law_checked) (by decide) (fun _ => rfl) (fun _ => T.g_law_checked) K_law_checked B_law_checked .nil (fun _ => rfl) (xa_cons (xe_var fun _ => pv 3) (xa_cons (XN.xe (xn_lc c (fun _ => nd) (xlc (own := ([("_law_name_here", 14)] : List (Str × Nat))) c (xi_seq c (xe_var fun _ => pv 12)) (xg_name fun _ => pg_name (i := 14) nd rfl (by first | exact Or.inl rfl | exact Or.inr rfl)) (by decide) xts_nil (xe_add (Ctx.blk c _) (XE.loose (xe_tup (xa_cons (xe_var fun _ => pv 14) xa_nil))) (XE.loose (xe_slice (Ctx.blk c _) (XE.loose (xe_var fun _ => pv 6)) (xo_some (XE.loose xe_int)) xo_none)))) (fun _ => blkOk_by (N := ["_law_script", "_law_numbers_here", "_law_parts_here", "_law_table", "_law_balls_here", "_law_ball", "_law_first", "_law_number", "_law_bad", "_law_kept", "_law_at", "_law_double", "_law_names", "_law_k", "_law_name_here"]) (sc := defScope s_law) (by decide +kernel)))) (xa_cons xe_bl xa_nil))))) (XE.loose xe_str) (nomark _))
    (xss_one (xs_ret xe_bl))
    xss_nil)
    (xss_one (xs_ret (ye_cmp (cmp_isB c) (XE.loose (xe_call c (fun _ => G_law_checked) (by decide) (fun _ => rfl) (fun _ => T.g_law_checked) K_law_checked B_law_checked .nil (fun _ => rfl) (xa_cons (xe_var fun _ => pv 3) (xa_cons (XN.xe (xn_lc c (fun _ => nd) (xlc (own := ([("_law_name_here", 14)] : List (Str × Nat))) c (xi_seq c (xe_slice c (XE.loose (xe_var fun _ => pv 12)) xo_none (xo_some (XE.loose xe_int)))) (xg_name fun _ => pg_name (i := 14) nd rfl (by first | exact Or.inl rfl | exact Or.inr rfl)) (by decide) xts_nil (xe_add (Ctx.blk c _) (XE.loose (xe_tup (xa_cons (xe_var fun _ => pv 14) xa_nil))) (XE.loose (xe_slice (Ctx.blk c _) (XE.loose (xe_var fun _ => pv 6)) (xo_some (XE.loose xe_int)) xo_none)))) (fun _ => blkOk_by (N := ["_law_script", "_law_numbers_here", "_law_parts_here", "_law_table", "_law_balls_here", "_law_ball", "_law_first", "_law_number", "_law_bad", "_law_kept", "_law_at", "_law_double", "_law_names", "_law_k", "_law_name_here"]) (sc := defScope s_law) (by decide +kernel)))) (xa_cons xe_bl xa_nil))))) (XE.loose xe_bl) (nomark _)))))))))))))))))))))
end
/-! ### the top -/
def d_require : He.DefD := ⟨("require", none), "require", "require", defArgs s_require, defBody s_require, defScope s_require, [], []⟩
def d_Table_is_point : He.DefD := ⟨("Table", some "is_point"), "is_point", "Table.is_point", defArgs s_Table_is_point, defBody s_Table_is_point, defScope s_Table_is_point, [], []⟩
def d_Table_init : He.DefD := ⟨("Table", some "__init__"), "__init__", "Table.__init__", defArgs s_Table_init, defBody s_Table_init, defScope s_Table_init, [.adr (He.dflAt ("Table", some "__init__") 0)], []⟩
def d_is_name : He.DefD := ⟨("is_name", none), "is_name", "is_name", defArgs s_is_name, defBody s_is_name, defScope s_is_name, [], []⟩
def d_is_ball : He.DefD := ⟨("is_ball", none), "is_ball", "is_ball", defArgs s_is_ball, defBody s_is_ball, defScope s_is_ball, [], []⟩
def d_check_ball : He.DefD := ⟨("check_ball", none), "check_ball", "check_ball", defArgs s_check_ball, defBody s_check_ball, defScope s_check_ball, [], []⟩
def d_check_balls : He.DefD := ⟨("check_balls", none), "check_balls", "check_balls", defArgs s_check_balls, defBody s_check_balls, defScope s_check_balls, [], []⟩
def d_law_row : He.DefD := ⟨("_law_row", none), "_law_row", "_law_row", defArgs s_law_row, defBody s_law_row, defScope s_law_row, [], []⟩
def d_law_numbers : He.DefD := ⟨("_law_numbers", none), "_law_numbers", "_law_numbers", defArgs s_law_numbers, defBody s_law_numbers, defScope s_law_numbers, [], []⟩
def d_law_big : He.DefD := ⟨("_law_big", none), "_law_big", "_law_big", defArgs s_law_big, defBody s_law_big, defScope s_law_big, [], []⟩
def d_law_name : He.DefD := ⟨("_law_name", none), "_law_name", "_law_name", defArgs s_law_name, defBody s_law_name, defScope s_law_name, [], []⟩
def d_law_points : He.DefD := ⟨("_law_points", none), "_law_points", "_law_points", defArgs s_law_points, defBody s_law_points, defScope s_law_points, [], []⟩
def d_law_balls : He.DefD := ⟨("_law_balls", none), "_law_balls", "_law_balls", defArgs s_law_balls, defBody s_law_balls, defScope s_law_balls, [], []⟩
def d_law_count : He.DefD := ⟨("_law_count", none), "_law_count", "_law_count", defArgs s_law_count, defBody s_law_count, defScope s_law_count, [], []⟩
def d_law_parts : He.DefD := ⟨("_law_parts", none), "_law_parts", "_law_parts", defArgs s_law_parts, defBody s_law_parts, defScope s_law_parts, [], []⟩
def d_law_made : He.DefD := ⟨("_law_made", none), "_law_made", "_law_made", defArgs s_law_made, defBody s_law_made, defScope s_law_made, [], []⟩
def d_law_same : He.DefD := ⟨("_law_same", none), "_law_same", "_law_same", defArgs s_law_same, defBody s_law_same, defScope s_law_same, [], []⟩
def d_law_bad_name : He.DefD := ⟨("_law_bad_name", none), "_law_bad_name", "_law_bad_name", defArgs s_law_bad_name, defBody s_law_bad_name, defScope s_law_bad_name, [], []⟩
def d_law_checked : He.DefD := ⟨("_law_checked", none), "_law_checked", "_law_checked", defArgs s_law_checked, defBody s_law_checked, defScope s_law_checked, [], []⟩
def d_law_spoilt : He.DefD := ⟨("_law_spoilt", none), "_law_spoilt", "_law_spoilt", defArgs s_law_spoilt, defBody s_law_spoilt, defScope s_law_spoilt, [], []⟩
def d_law : He.DefD := ⟨("law", none), "law", "law", defArgs s_law, defBody s_law, defScope s_law, [], []⟩
def fn : List He.DefD := [d_require, d_Table_is_point, d_Table_init, d_is_name, d_is_ball, d_check_ball, d_check_balls, d_law_row, d_law_numbers, d_law_big, d_law_name, d_law_points, d_law_balls, d_law_count, d_law_parts, d_law_made, d_law_same, d_law_bad_name, d_law_checked, d_law_spoilt, d_law]
def fa : List He.Fa := [.free "ValueError", .free "abs", .free "all", .free "enumerate", .free "int", .free "isinstance", .free "len", .free "list", .free "max", .free "min", .free "range", .free "str", .free "tuple", .glo "CushionedError", .glo "InvalidBall", .glo "InvalidTable", .glo "Table", .glo "_law_bad_name", .glo "_law_balls", .glo "_law_big", .glo "_law_checked", .glo "_law_count", .glo "_law_made", .glo "_law_name", .glo "_law_numbers", .glo "_law_parts", .glo "_law_points", .glo "_law_row", .glo "_law_spoilt", .glo "check_ball", .glo "check_balls", .glo "is_ball", .glo "is_name", .glo "require", .glo "law", .cls "Table", .noat "Table" "pockets", .noat "Table" "height", .noat "Table" "width", .meth "Table" "is_point", .mkr "Table", .exc "InvalidBall", .exc "InvalidTable", .exm "CushionedError" "InvalidBall" false, .exm "InvalidBall" "InvalidBall" true, .exm "InvalidTable" "InvalidBall" false]
def ex : List (PySem.W.Frag → Bool) := [conB "MOST" c_MOST, conB "MOST_BALLS" c_MOST_BALLS, conB "MOST_NAME_CHARS" c_MOST_NAME_CHARS, conB "MOST_POCKETS" c_MOST_POCKETS, conB "NAME_CHARS" c_NAME_CHARS, dflX ("Table", some "__init__") 0 (.tup []), excIsB "InvalidBall", kitB "InvalidBall" "CushionedError" true, kitB "InvalidBall" "InvalidTable" false, kitTB "InvalidBall" "ValueError" true, injB [("CushionedError", false), ("InvalidTable", false), ("InvalidBall", true)]]
abbrev R : PySem.W.OpenRow := PySem.W.OpenLaw.row PySem.Challenge.rw_cushioned_k04_balls
abbrev hk : PySem.W.Hook := hookE 6 fa ex fn
def ob (s : PySem.W.SharedT) : He.AlD := obsEG 6 fa ex fn (HandSHeadRun.getT s)
theorem ob_eq (s : PySem.W.SharedT) : ob s = hk.obs s.abs := obsEG_eq (HandSHeadRun.getT_eq s)
def loose0 : List Str := ["_wall", "CushionedError", "InvalidTable", "InvalidBall", "MOST", "MOST_POCKETS", "require", "Table", "NAME_CHARS", "MOST_NAME_CHARS", "MOST_BALLS", "is_name", "is_ball", "check_ball", "check_balls", "_law_row", "_law_numbers", "_law_big", "_law_name", "_law_points", "_law_balls", "_law_count", "_law_parts", "_law_made", "_law_same", "_law_bad_name", "_law_checked", "_law_spoilt"]
def looseA : List Str := loose0
theorem run (w : World) : HandSHeadRun.RunEq R (PySem.W.view R.prog [32]) hk ob 20000 looseA w := by
  intro os
  kernel_rfl
theorem facts {P : Program} {w : World} {K : PySem.W.Frag} {h : Heap} {mg : Str → Option Value} {f : Addr} (X : K.In h) (G : h.Ns mainGlobals mg) (hfa : mg ("law" : Str) = some (.ref f)) (c : SaysE fa ex fn K) :
    ∃ fd : FuncData, (∀ (s : Shared) (v : Value), BindsTo s fd ⟨[v], []⟩ [("_law_script", v)]) ∧ ∀ base : Heap, K.In base → base.Ns mainGlobals mg → FnOk P w K mg base (L2.CX P w) 6 f fd ["_law_script"] (spF (mkE K) 1 f_law) := by
  have T : Txt (mkE K) mg := ⟨He.free_ok X G (c.fact 0 (f := .free "ValueError") rfl), He.free_ok X G (c.fact 1 (f := .free "abs") rfl), He.free_ok X G (c.fact 2 (f := .free "all") rfl), He.free_ok X G (c.fact 3 (f := .free "enumerate") rfl), He.free_ok X G (c.fact 4 (f := .free "int") rfl), He.free_ok X G (c.fact 5 (f := .free "isinstance") rfl), He.free_ok X G (c.fact 6 (f := .free "len") rfl), He.free_ok X G (c.fact 7 (f := .free "list") rfl), He.free_ok X G (c.fact 8 (f := .free "max") rfl), He.free_ok X G (c.fact 9 (f := .free "min") rfl), He.free_ok X G (c.fact 10 (f := .free "range") rfl), He.free_ok X G (c.fact 11 (f := .free "str") rfl), He.free_ok X G (c.fact 12 (f := .free "tuple") rfl), ⟨con_ok (E := mkE K) X G (c.ext 0 (f := conB "MOST" c_MOST) rfl)⟩, ⟨con_ok (E := mkE K) X G (c.ext 1 (f := conB "MOST_BALLS" c_MOST_BALLS) rfl)⟩, ⟨con_ok (E := mkE K) X G (c.ext 2 (f := conB "MOST_NAME_CHARS" c_MOST_NAME_CHARS) rfl)⟩, ⟨con_ok (E := mkE K) X G (c.ext 3 (f := conB "MOST_POCKETS" c_MOST_POCKETS) rfl)⟩, ⟨con_ok (E := mkE K) X G (c.ext 4 (f := conB "NAME_CHARS" c_NAME_CHARS) rfl)⟩, He.glo_ok X G (c.fact 13 (f := .glo "CushionedError") rfl), He.glo_ok X G (c.fact 14 (f := .glo "InvalidBall") rfl), He.glo_ok X G (c.fact 15 (f := .glo "InvalidTable") rfl), He.glo_ok X G (c.fact 16 (f := .glo "Table") rfl), He.glo_ok X G (c.fact 17 (f := .glo "_law_bad_name") rfl), He.glo_ok X G (c.fact 18 (f := .glo "_law_balls") rfl), He.glo_ok X G (c.fact 19 (f := .glo "_law_big") rfl), He.glo_ok X G (c.fact 20 (f := .glo "_law_checked") rfl), He.glo_ok X G (c.fact 21 (f := .glo "_law_count") rfl), He.glo_ok X G (c.fact 22 (f := .glo "_law_made") rfl), He.glo_ok X G (c.fact 23 (f := .glo "_law_name") rfl), He.glo_ok X G (c.fact 24 (f := .glo "_law_numbers") rfl), He.glo_ok X G (c.fact 25 (f := .glo "_law_parts") rfl), He.glo_ok X G (c.fact 26 (f := .glo "_law_points") rfl), He.glo_ok X G (c.fact 27 (f := .glo "_law_row") rfl), He.glo_ok X G (c.fact 28 (f := .glo "_law_spoilt") rfl), He.glo_ok X G (c.fact 29 (f := .glo "check_ball") rfl), He.glo_ok X G (c.fact 30 (f := .glo "check_balls") rfl), He.glo_ok X G (c.fact 31 (f := .glo "is_ball") rfl), He.glo_ok X G (c.fact 32 (f := .glo "is_name") rfl), He.glo_ok X G (c.fact 33 (f := .glo "require") rfl), ⟨He.cls_ok (c.fact 35 (f := .cls "Table") rfl), (no_cons (He.noat_ok (c.fact 38 (f := .noat "Table" "width") rfl)) (no_cons (He.noat_ok (c.fact 37 (f := .noat "Table" "height") rfl)) (no_cons (He.noat_ok (c.fact 36 (f := .noat "Table" "pockets") rfl)) no_nil)))⟩, He.meth_ok (c.fact 39 (f := .meth "Table" "is_point") rfl), He.mkr_ok (c.fact 40 (f := .mkr "Table") rfl), c.ext 5 (f := dflX ("Table", some "__init__") 0 (.tup [])) rfl, He.exc_ok (c.fact 41 (f := .exc "InvalidBall") rfl), He.exc_ok (c.fact 42 (f := .exc "InvalidTable") rfl), He.exm_ok (c.fact 43 (f := .exm "CushionedError" "InvalidBall" false) rfl), He.exm_ok (c.fact 44 (f := .exm "InvalidBall" "InvalidBall" true) rfl), He.exm_ok (c.fact 45 (f := .exm "InvalidTable" "InvalidBall" false) rfl), excIsB_ok (c.ext 6 (f := excIsB "InvalidBall") rfl), of_decide_eq_true (c.ext 7 (f := kitB "InvalidBall" "CushionedError" true) rfl), of_decide_eq_true (c.ext 8 (f := kitB "InvalidBall" "InvalidTable" false) rfl), of_decide_eq_true (c.ext 9 (f := kitTB "InvalidBall" "ValueError" true) rfl), injB_ok (c.ext 10 (f := injB [("CushionedError", false), ("InvalidTable", false), ("InvalidBall", true)]) rfl)⟩
  have e := hfa.symm.trans (He.glo_ok X G (c.fact 34 (f := .glo "law") rfl))
  cases e
  obtain ⟨fd0, F0⟩ := c.def_ 20 (d := d_law) rfl
  have b := FunD.bindsA (ps := ["_law_script"]) F0 fun _ _ _ _ _ _ us hl => match us, hl with | [_], _ => rfl
  refine ⟨fd0, fun s v => b s [v] rfl, fun base hK hn => ?_⟩
  have h_require := ok_require (P := P) (w := w) (base := base) T (c.def_ 0 (d := d_require) rfl)
  have h_Table_is_point := ok_Table_is_point (P := P) (w := w) (base := base) T (c.def_ 1 (d := d_Table_is_point) rfl)
  have h_Table_init := ok_Table_init (P := P) (w := w) (base := base) T (c.def_ 2 (d := d_Table_init) rfl) h_require h_Table_is_point
  have h_is_name := ok_is_name (P := P) (w := w) (base := base) T (c.def_ 3 (d := d_is_name) rfl)
  have h_is_ball := ok_is_ball (P := P) (w := w) (base := base) T (c.def_ 4 (d := d_is_ball) rfl) h_is_name h_Table_is_point
  have h_check_ball := ok_check_ball (P := P) (w := w) (base := base) T (c.def_ 5 (d := d_check_ball) rfl) h_is_ball
  have h_check_balls := ok_check_balls (P := P) (w := w) (base := base) T (c.def_ 6 (d := d_check_balls) rfl) h_check_ball
  have h_law_row := ok_law_row (P := P) (w := w) (base := base) T (c.def_ 7 (d := d_law_row) rfl)
  have h_law_numbers := ok_law_numbers (P := P) (w := w) (base := base) T (c.def_ 8 (d := d_law_numbers) rfl) h_law_row
  have h_law_big := ok_law_big (P := P) (w := w) (base := base) T (c.def_ 9 (d := d_law_big) rfl)
  have h_law_name := ok_law_name (P := P) (w := w) (base := base) T (c.def_ 10 (d := d_law_name) rfl)
  have h_law_points := ok_law_points (P := P) (w := w) (base := base) T (c.def_ 11 (d := d_law_points) rfl) h_law_big
  have h_law_balls := ok_law_balls (P := P) (w := w) (base := base) T (c.def_ 12 (d := d_law_balls) rfl) h_law_big h_law_name
  have h_law_count := ok_law_count (P := P) (w := w) (base := base) T (c.def_ 13 (d := d_law_count) rfl)
  have h_law_parts := ok_law_parts (P := P) (w := w) (base := base) T (c.def_ 14 (d := d_law_parts) rfl) h_law_big h_law_points h_law_count
  have h_law_made := ok_law_made (P := P) (w := w) (base := base) T (c.def_ 15 (d := d_law_made) rfl) h_Table_init
  have h_law_same := ok_law_same (P := P) (w := w) (base := base) T (c.def_ 16 (d := d_law_same) rfl)
  have h_law_bad_name := ok_law_bad_name (P := P) (w := w) (base := base) T (c.def_ 17 (d := d_law_bad_name) rfl)
  have h_law_checked := ok_law_checked (P := P) (w := w) (base := base) T (c.def_ 18 (d := d_law_checked) rfl) h_check_balls h_check_ball
  have h_law_spoilt := ok_law_spoilt (P := P) (w := w) (base := base) T (c.def_ 19 (d := d_law_spoilt) rfl) h_law_bad_name
  exact ok_law1 (P := P) (w := w) (base := base) T F0 h_law_numbers h_law_parts h_law_made h_law_balls h_law_count h_law_checked h_is_ball h_law_spoilt
end DL
theorem DL.holds_of (hl : ∀ ns : List Int, ns.length ≤ 63 → DL.f_law [.kl (ns.map .int)] = .ok (.bl true)) : PySem.Challenge.rw_cushioned_k04_balls.Holds := by
  open PySem PySem.W PySem.Calls PyProof.Rows in
  w_on; o_law
  refine HandSHeadRun.head_any (r := OpenLaw.row PySem.Challenge.rw_cushioned_k04_balls) (q := view (OpenLaw.row PySem.Challenge.rw_cushioned_k04_balls).prog [32]) (H := DL.hk) (ob := DL.ob) (M := 20000) (loose := DL.looseA) (d := HandSHeadRun.topDef (OpenLaw.row PySem.Challenge.rw_cushioned_k04_balls).prog 32) (kwd := []) DL.ob_eq
    (by kernel_rfl) (fun s => by kernel_rfl) DL.run (by kernel_rfl) (by kernel_rfl) (by kernel_rfl) (by rfl) (by first | assumption | decide +kernel) (by decide +kernel) ⟨rfl, rfl, rfl, rfl, rfl, by decide +kernel⟩ ?hw ?hc
  case hw => w_witness2
  case hc =>
    refine L2.walk_ofE (l := PySem.Challenge.rw_cushioned_k04_balls) (n := 63) (k := 6) (x := "_law_script") (CX := L2.CX0) rfl (by decide) (by kernel_rfl) ⟨rfl, by decide, by decide⟩ ?F (fun _ _ _ _ z => z)
    intro w mg fa h Y G hmg0
    obtain ⟨K, KX, c⟩ := Y
    have hmg : mg ("law" : PySem.Str) = some (.ref fa) := by
      have e : (HandSHeadRun.topDef (OpenLaw.row PySem.Challenge.rw_cushioned_k04_balls).prog 32).name = ("law" : PySem.Str) := by kernel_rfl
      rw [← e]
      exact hmg0
    obtain ⟨fd, hb, hF⟩ := DL.facts (P := (PySem.Challenge.rw_cushioned_k04_balls).prog) (w := w) KX G hmg c
    exact ⟨K, fd, fun vs H Q _ => DL.spF (DL.mkE K) 1 DL.f_law vs H Q fun _ _ _ => False, KX, hb, fun H a ns hl' _ hS => DL.law_sp hl H a ns hl' hS, fun base hK hn => DL.fnOk_nox (hF base hK hn)⟩
end

theorem PySem.Challenge.cw_cushioned_k04_balls_holds : PySem.Challenge.rw_cushioned_k04_balls.Holds := by
  exact (DL.holds_of DL.law_k04)
