import PyProof.Rows.All
import Wide.All
import OpenK.AllK
import Wide.FinOn
import HandS.Base
import HandS.Call
import HandS.List
import HandS.Comp
import HandS.Ends
import HandS.Exc
import HandS.TryOnly
import HandS.ExcOwn
import HandS.Words
import HandS.Iter
import HandS.Walk
import HandS.Wide
import HandS.Gcd
import HandS.IsInst
import HandS.CallSlots
import HandS.WordsExc
import HandS.Text
import HandS.Deep
import HandS.Flow
import HandS.StrMore
import KE.SortData
import HandS.Defaults
import HandS.HeadEnd
import HandS.Head0
import HandS.Head1
import HandS.Head2
import HandS.HeadHook1
import HandS.HeadHook2
import HandS.Head3
import PySem.Challenge.RW_cushioned_k19_chinese
set_option Elab.async false
section
set_option linter.all false
set_option maxRecDepth 100000
set_option maxHeartbeats 4000000
namespace DL
open PySem PySem.Spec L2

/-! ## data -/
inductive D where
  | non | bl (b : Bool) | int (i : Int) | str (x : Str)
  | tup (ds : List D) | lst (ds : List D) | kl (ds : List D)
  | ins (C : Str) (ns : List Str) (ds : List D)
  | dk (ks : List Key) (ds : List D)
  | dt (ks : List (List Key)) (ds : List D)

/-- the surroundings: the written part, where each class stands -/
structure Am where
  K : PySem.W.Frag
  cl : Str → Addr

mutual
def Rep (E : Am) (F : Hp) : D → V → Prop
  | .non, v => v = .non
  | .bl b, v => v = .bl b
  | .int i, v => v = .int i
  | .str x, v => v = .str x
  | .tup ds, v => ∃ a vs, v = .ref a ∧ SqT E.K F a vs ∧ RepL E F ds vs
  | .lst ds, v => ∃ a vs, v = .ref a ∧ F a = some (.lst vs) ∧ RepL E F ds vs
  | .kl ds, v => ∃ a vs, v = .ref a ∧ SqL E.K F a vs ∧ RepL E F ds vs
  | .ins C ns ds, v => ∃ a dx vs, v = .ref a ∧ F a = some (.ins (E.cl C) dx (ns.zip vs)) ∧ ns.length = ds.length ∧ RepL E F ds vs
  | .dk ks ds, v => ∃ a vs, v = .ref a ∧ F a = some (.dK (ks.zip vs)) ∧ ks.length = ds.length ∧ RepL E F ds vs
  | .dt ks ds, v => ∃ a vs, v = .ref a ∧ F a = some (.dT (ks.zip vs)) ∧ ks.length = ds.length ∧ RepL E F ds vs
def RepL (E : Am) (F : Hp) : List D → List V → Prop
  | [], vs => vs = []
  | d :: ds, vs => ∃ v r, vs = v :: r ∧ Rep E F d v ∧ RepL E F ds r
end

theorem sqT_mono {K : PySem.W.Frag} {H H' : Hp} {a : Addr} {xs : List V} (e : Same H H') (h : SqT K H a xs) : SqT K H' a xs := by
  rcases h with (h | ⟨o, h⟩) | h
  · exact .inl (.inl (e _ _ h))
  · exact .inl (.inr ⟨o, e _ _ h⟩)
  · exact .inr h
theorem sqL_mono {K : PySem.W.Frag} {H H' : Hp} {a : Addr} {xs : List V} (e : Same H H') (h : SqL K H a xs) : SqL K H' a xs := e.seq h

mutual
theorem Rep.mono {E : Am} {F F' : Hp} (e : Same F F') : ∀ (d : D) (v : V), Rep E F d v → Rep E F' d v
  | .non, v, h => h
  | .bl _, v, h => h
  | .int _, v, h => h
  | .str _, v, h => h
  | .tup ds, v, h => by
    obtain ⟨a, vs, h1, h2, h3⟩ := h
    exact ⟨a, vs, h1, sqT_mono e h2, RepL.mono e ds vs h3⟩
  | .lst ds, v, h => by
    obtain ⟨a, vs, h1, h2, h3⟩ := h
    exact ⟨a, vs, h1, e _ _ h2, RepL.mono e ds vs h3⟩
  | .kl ds, v, h => by
    obtain ⟨a, vs, h1, h2, h3⟩ := h
    exact ⟨a, vs, h1, sqL_mono e h2, RepL.mono e ds vs h3⟩
  | .ins C ns ds, v, h => by
    obtain ⟨a, dx, vs, h1, h2, h3, h4⟩ := h
    exact ⟨a, dx, vs, h1, e _ _ h2, h3, RepL.mono e ds vs h4⟩
  | .dk ks ds, v, h => by
    obtain ⟨a, vs, h1, h2, h3, h4⟩ := h
    exact ⟨a, vs, h1, e _ _ h2, h3, RepL.mono e ds vs h4⟩
  | .dt ks ds, v, h => by
    obtain ⟨a, vs, h1, h2, h3, h4⟩ := h
    exact ⟨a, vs, h1, e _ _ h2, h3, RepL.mono e ds vs h4⟩
theorem RepL.mono {E : Am} {F F' : Hp} (e : Same F F') : ∀ (ds : List D) (vs : List V), RepL E F ds vs → RepL E F' ds vs
  | [], vs, h => h
  | d :: ds, vs, h => by
    obtain ⟨v, r, h1, h2, h3⟩ := h
    exact ⟨v, r, h1, Rep.mono e d v h2, RepL.mono e ds r h3⟩
end
theorem RepL.nil {E : Am} {F : Hp} : RepL E F [] [] := rfl
theorem RepL.cons {E : Am} {F : Hp} {d : D} {ds : List D} {v : V} {vs : List V} (h : Rep E F d v) (t : RepL E F ds vs) : RepL E F (d :: ds) (v :: vs) := ⟨v, vs, rfl, h, t⟩
theorem RepL.len {E : Am} {F : Hp} : ∀ {ds : List D} {vs : List V}, RepL E F ds vs → ds.length = vs.length
  | [], vs, h => by cases h; rfl
  | d :: ds, vs, h => by
    obtain ⟨v, r, rfl, _, t⟩ := h
    rw [List.length_cons, List.length_cons, RepL.len t]
theorem RepL.get {E : Am} {F : Hp} : ∀ {ds : List D} {vs : List V} {i : Nat} {d : D}, RepL E F ds vs → ds[i]? = some d → ∃ v, vs[i]? = some v ∧ Rep E F d v
  | [], vs, i, d, _, e => by simp at e
  | x :: ds, vs, 0, d, h, e => by
    obtain ⟨v, r, rfl, h1, _⟩ := h
    simp at e; subst e
    exact ⟨v, rfl, h1⟩
  | x :: ds, vs, i + 1, d, h, e => by
    obtain ⟨v, r, rfl, _, t⟩ := h
    obtain ⟨u, e1, e2⟩ := RepL.get (i := i) t (by simpa using e)
    exact ⟨u, by simpa using e1, e2⟩
theorem RepL.getV {E : Am} {F : Hp} {ds : List D} {vs : List V} {i : Nat} {v : V} (h : RepL E F ds vs) (e : vs[i]? = some v) : ∃ d, ds[i]? = some d ∧ Rep E F d v := by
  have hl := h.len
  have hi : i < vs.length := (List.getElem?_eq_some_iff.mp e).1
  obtain ⟨u, e1, e2⟩ := h.get (i := i) (d := ds[i]'(by omega)) (by simp [show i < ds.length by omega])
  rw [e] at e1; cases e1
  exact ⟨_, by simp [show i < ds.length by omega], e2⟩
theorem RepL.append {E : Am} {F : Hp} : ∀ {ds es : List D} {vs us : List V}, RepL E F ds vs → RepL E F es us → RepL E F (ds ++ es) (vs ++ us)
  | [], es, vs, us, h, t => by cases h; exact t
  | d :: ds, es, vs, us, h, t => by
    obtain ⟨v, r, rfl, h1, h2⟩ := h
    exact .cons h1 (RepL.append h2 t)
theorem RepL.take {E : Am} {F : Hp} : ∀ {ds : List D} {vs : List V} (n : Nat), RepL E F ds vs → RepL E F (ds.take n) (vs.take n)
  | ds, vs, 0, h => by simp; rfl
  | [], vs, n + 1, h => by cases h; exact rfl
  | d :: ds, vs, n + 1, h => by
    obtain ⟨v, r, rfl, h1, h2⟩ := h
    exact .cons h1 (RepL.take n h2)
theorem RepL.drop {E : Am} {F : Hp} : ∀ {ds : List D} {vs : List V} (n : Nat), RepL E F ds vs → RepL E F (ds.drop n) (vs.drop n)
  | ds, vs, 0, h => h
  | [], vs, n + 1, h => by cases h; exact rfl
  | d :: ds, vs, n + 1, h => by
    obtain ⟨v, r, rfl, h1, h2⟩ := h
    exact RepL.drop n h2
theorem RepL.set {E : Am} {F : Hp} {d : D} {v : V} (hd : Rep E F d v) : ∀ {ds : List D} {vs : List V} (n : Nat), RepL E F ds vs → RepL E F (ds.set n d) (vs.set n v)
  | [], vs, n, h => by cases h; exact rfl
  | x :: ds, vs, 0, h => by
    obtain ⟨u, r, rfl, h1, h2⟩ := h
    exact .cons hd h2
  | x :: ds, vs, n + 1, h => by
    obtain ⟨u, r, rfl, h1, h2⟩ := h
    exact .cons h1 (RepL.set hd n h2)
theorem RepL.nilL {E : Am} {F : Hp} {vs : List V} (h : RepL E F [] vs) : vs = [] := h

/-! ## heaps that grow: the frozen part F, the whole H -/
structure Ext (F H F' H' : Hp) : Prop where
  f : Same F F'
  h : Same H H'
  fh : Same F' H'
  nf : ∀ l, H l ≠ none → F' l = F l
theorem Ext.refl {F H : Hp} (s : Same F H) : Ext F H F H := ⟨Same.refl F, Same.refl H, s, fun _ _ => rfl⟩
theorem Ext.trans {F H F1 H1 F2 H2 : Hp} (a : Ext F H F1 H1) (b : Ext F1 H1 F2 H2) : Ext F H F2 H2 :=
  ⟨a.f.trans b.f, a.h.trans b.h, b.fh, fun l hl => by
    have h1 : H1 l ≠ none := fun e => hl (a.h.free e)
    rw [b.nf l h1, a.nf l hl]⟩
theorem same_upd {F H : Hp} {p : Addr} {o : HO} (s : Same F H) (hp : H p = none) : Same F (upd H p o) := fun b u e => by
  rw [upd_ne (ne_of_none (s b u e) hp)]; exact s b u e
theorem same_upd_self {H : Hp} {p : Addr} {o : HO} (hp : H p = none) : Same H (upd H p o) := same_upd (Same.refl H) hp
/-- a new object, frozen at once -/
theorem Ext.new {F H : Hp} {p : Addr} {o : HO} (s : Same F H) (hp : H p = none) : Ext F H (upd F p o) (upd H p o) :=
  ⟨same_upd_self (s.free hp), same_upd_self hp, fun b u e => by
    by_cases hb : b = p
    · subst hb; rw [upd_same] at e ⊢; exact e
    · rw [upd_ne hb] at e ⊢; exact s b u e,
   fun l hl => by
    have : l ≠ p := fun z => hl (by rw [z]; exact hp)
    rw [upd_ne this]⟩
/-- a new object, not frozen -/
theorem Ext.newH {F H : Hp} {p : Addr} {o : HO} (s : Same F H) (hp : H p = none) : Ext F H F (upd H p o) :=
  ⟨Same.refl F, same_upd_self hp, same_upd s hp, fun _ _ => rfl⟩
/-- an object that is there and not frozen gets frozen -/
theorem Ext.frz {B F0 F H : Hp} {p : Addr} {o : HO} (x : Ext F0 B F H) (h : H p = some o) (hf : F p = none) (hb : B p = none) : Ext F0 B (upd F p o) H :=
  ⟨x.f.trans (same_upd_self hf), x.h, fun b u e => by
    by_cases q : b = p
    · subst q; rw [upd_same] at e; rw [h]; exact e
    · rw [upd_ne q] at e; exact x.fh b u e,
   fun l hl => by
    have : l ≠ p := fun z => hl (by rw [z]; exact hb)
    rw [upd_ne this]; exact x.nf l hl⟩
/-- an own object changes -/
theorem Ext.wr {B F0 F H : Hp} {p : Addr} {o : HO} (x : Ext F0 B F H) (hf : F p = none) (hb : B p = none) : Ext F0 B F (upd H p o) :=
  ⟨x.f, fun b u e => by rw [upd_ne (ne_of_none e hb)]; exact x.h b u e, fun b u e => by rw [upd_ne (ne_of_none e hf)]; exact x.fh b u e, x.nf⟩

/-! ## own objects and slots -/
def OwnR (E : Am) (F : Hp) : D → HO → Prop
  | .lst ds, ho => ∃ vs, ho = .lst vs ∧ RepL E F ds vs
  | .ins C ns ds, ho => ∃ dx vs, ho = .ins (E.cl C) dx (ns.zip vs) ∧ ns.length = ds.length ∧ RepL E F ds vs
  | .dk ks ds, ho => ∃ vs, ho = .dK (ks.zip vs) ∧ ks.length = ds.length ∧ RepL E F ds vs
  | .dt ks ds, ho => ∃ vs, ho = .dT (ks.zip vs) ∧ ks.length = ds.length ∧ RepL E F ds vs
  | _, _ => False
theorem OwnR.mono {E : Am} {F F' : Hp} (e : Same F F') {d : D} {ho : HO} (h : OwnR E F d ho) : OwnR E F' d ho := by
  cases d with
  | lst ds => obtain ⟨vs, h1, h2⟩ := h; exact ⟨vs, h1, RepL.mono e _ _ h2⟩
  | ins C ns ds => obtain ⟨dx, vs, h1, h2, h3⟩ := h; exact ⟨dx, vs, h1, h2, RepL.mono e _ _ h3⟩
  | dk ks ds => obtain ⟨vs, h1, h2, h3⟩ := h; exact ⟨vs, h1, h2, RepL.mono e _ _ h3⟩
  | dt ks ds => obtain ⟨vs, h1, h2, h3⟩ := h; exact ⟨vs, h1, h2, RepL.mono e _ _ h3⟩
  | _ => exact h
theorem OwnR.rep {E : Am} {F : Hp} {d : D} {ho : HO} {l : Addr} (h : OwnR E F d ho) (e : F l = some ho) : Rep E F d (.ref l) := by
  cases d with
  | lst ds => obtain ⟨vs, h1, h2⟩ := h; subst h1; exact ⟨l, vs, rfl, e, h2⟩
  | ins C ns ds => obtain ⟨dx, vs, h1, h2, h3⟩ := h; subst h1; exact ⟨l, dx, vs, rfl, e, h2, h3⟩
  | dk ks ds => obtain ⟨vs, h1, h2, h3⟩ := h; subst h1; exact ⟨l, vs, rfl, e, h2, h3⟩
  | dt ks ds => obtain ⟨vs, h1, h2, h3⟩ := h; subst h1; exact ⟨l, vs, rfl, e, h2, h3⟩
  | _ => exact h.elim

/-- what a slot is known to hold -/
inductive EV where
  | unb | dat (d : D) | own (d : D)
abbrev Ev := List EV
structure StR (E : Am) (B F H : Hp) (σ : L2.St) (ρ : Ev) : Prop where
  len : σ.length = ρ.length
  dat : ∀ (i : Nat) (d : D), ρ[i]? = some (.dat d) → ∃ v, σ[i]? = some (some v) ∧ Rep E F d v
  own : ∀ (i : Nat) (d : D), ρ[i]? = some (.own d) → ∃ l ho, σ[i]? = some (some (.ref l)) ∧ H l = some ho ∧ F l = none ∧ B l = none ∧ OwnR E F d ho
  apart : ∀ (i j : Nat) (d d' : D) (l : Addr), i ≠ j → ρ[i]? = some (.own d) → ρ[j]? = some (.own d') → σ[i]? = some (some (.ref l)) → σ[j]? ≠ some (some (.ref l))
theorem StR.mono {E : Am} {B F H F' H' : Hp} {σ : L2.St} {ρ : Ev} (s : StR E B F H σ ρ) (x : Ext F H F' H') : StR E B F' H' σ ρ :=
  ⟨s.len, fun i d e => let ⟨v, h1, h2⟩ := s.dat i d e; ⟨v, h1, Rep.mono x.f d v h2⟩,
   fun i d e => by
    obtain ⟨l, ho, h1, h2, h3, h4, h5⟩ := s.own i d e
    exact ⟨l, ho, h1, x.h _ _ h2, by rw [x.nf l (by rw [h2]; simp)]; exact h3, h4, h5.mono x.f⟩,
   s.apart⟩
/-- set a slot to a datum -/
theorem StR.setD {E : Am} {B F H : Hp} {σ : L2.St} {ρ : Ev} (s : StR E B F H σ ρ) {i : Nat} {d : D} {v : V} (h : Rep E F d v) : StR E B F H (σ.set i (some v)) (ρ.set i (.dat d)) := by
  refine ⟨by simp [s.len], fun j e hj => ?_, fun j e hj => ?_, fun j k e e' l hjk hj hk hl => ?_⟩
  · by_cases q : i = j
    · subst q
      by_cases hi : i < ρ.length
      · rw [List.getElem?_set_self hi] at hj
        cases hj
        exact ⟨v, by rw [List.getElem?_set_self (by rw [s.len]; exact hi)], h⟩
      · rw [List.getElem?_eq_none (by simpa using hi)] at hj; cases hj
    · rw [List.getElem?_set_ne q] at hj ⊢
      exact s.dat j e hj
  · by_cases q : i = j
    · subst q
      by_cases hi : i < ρ.length
      · rw [List.getElem?_set_self hi] at hj; cases hj
      · rw [List.getElem?_eq_none (by simpa using hi)] at hj; cases hj
    · rw [List.getElem?_set_ne q] at hj ⊢
      exact s.own j e hj
  · have qj : i ≠ j := fun z => by
      subst z
      by_cases hi : i < ρ.length
      · rw [List.getElem?_set_self hi] at hj; cases hj
      · rw [List.getElem?_eq_none (by simpa using hi)] at hj; cases hj
    have qk : i ≠ k := fun z => by
      subst z
      by_cases hi : i < ρ.length
      · rw [List.getElem?_set_self hi] at hk; cases hk
      · rw [List.getElem?_eq_none (by simpa using hi)] at hk; cases hk
    rw [List.getElem?_set_ne qj] at hj hl
    rw [List.getElem?_set_ne qk] at hk ⊢
    exact s.apart j k e e' l hjk hj hk hl
/-- set a slot to a new own object -/
theorem StR.setO {E : Am} {B F H : Hp} {σ : L2.St} {ρ : Ev} (s : StR E B F H σ ρ) {i : Nat} {d : D} {l : Addr} {ho : HO} (hl : H l = some ho) (hf : F l = none) (hb : B l = none) (h : OwnR E F d ho)
    (new : ∀ j e, ρ[j]? = some (.own e) → j ≠ i → σ[j]? ≠ some (some (.ref l))) : StR E B F H (σ.set i (some (.ref l))) (ρ.set i (.own d)) := by
  have at_ : ∀ {j : Nat} {e : EV}, (ρ.set i (.own d))[j]? = some e → (j = i ∧ i < ρ.length ∧ e = .own d) ∨ (j ≠ i ∧ ρ[j]? = some e) := fun {j e} hj => by
    by_cases q : i = j
    · subst q
      by_cases hi : i < ρ.length
      · rw [List.getElem?_set_self hi] at hj; cases hj; exact .inl ⟨rfl, hi, rfl⟩
      · rw [List.getElem?_eq_none (by simpa using hi)] at hj; cases hj
    · rw [List.getElem?_set_ne q] at hj; exact .inr ⟨Ne.symm q, hj⟩
  refine ⟨by simp [s.len], fun j e hj => ?_, fun j e hj => ?_, fun j k e e' l' hjk hj hk hl' => ?_⟩
  · rcases at_ hj with ⟨_, _, z⟩ | ⟨q, z⟩
    · cases z
    · rw [List.getElem?_set_ne (Ne.symm q)]; exact s.dat j e z
  · rcases at_ hj with ⟨q, hi, z⟩ | ⟨q, z⟩
    · subst q; cases z
      exact ⟨l, ho, by rw [List.getElem?_set_self (by rw [s.len]; exact hi)], hl, hf, hb, h⟩
    · rw [List.getElem?_set_ne (Ne.symm q)]; exact s.own j e z
  · rcases at_ hj with ⟨q, hi, z⟩ | ⟨q, z⟩
    · subst q
      rw [List.getElem?_set_self (by rw [s.len]; exact hi)] at hl'
      cases hl'
      rcases at_ hk with ⟨q2, _, _⟩ | ⟨q2, z2⟩
      · exact absurd q2.symm hjk
      · rw [List.getElem?_set_ne (Ne.symm q2)]
        exact new k e' z2 q2
    · rw [List.getElem?_set_ne (Ne.symm q)] at hl'
      rcases at_ hk with ⟨q2, hi, _⟩ | ⟨q2, z2⟩
      · subst q2
        rw [List.getElem?_set_self (by rw [s.len]; exact hi)]
        intro w
        cases w
        exact new j e z q hl'
      · rw [List.getElem?_set_ne (Ne.symm q2)]
        exact s.apart j k e e' l' hjk z z2 hl'
/-- forget a slot -/
theorem StR.setU {E : Am} {B F H : Hp} {σ : L2.St} {ρ : Ev} (s : StR E B F H σ ρ) {i : Nat} {o : Option V} : StR E B F H (σ.set i o) (ρ.set i .unb) := by
  have at_ : ∀ {j : Nat} {e : EV}, e ≠ .unb → (ρ.set i .unb)[j]? = some e → j ≠ i ∧ ρ[j]? = some e := fun {j e} ne hj => by
    by_cases q : i = j
    · subst q
      by_cases hi : i < ρ.length
      · rw [List.getElem?_set_self hi] at hj; cases hj; exact absurd rfl ne
      · rw [List.getElem?_eq_none (by simpa using hi)] at hj; cases hj
    · rw [List.getElem?_set_ne q] at hj; exact ⟨Ne.symm q, hj⟩
  refine ⟨by simp [s.len], fun j e hj => ?_, fun j e hj => ?_, fun j k e e' l' hjk hj hk hl' => ?_⟩
  · obtain ⟨q, z⟩ := at_ (by simp) hj
    rw [List.getElem?_set_ne (Ne.symm q)]; exact s.dat j e z
  · obtain ⟨q, z⟩ := at_ (by simp) hj
    rw [List.getElem?_set_ne (Ne.symm q)]; exact s.own j e z
  · obtain ⟨q, z⟩ := at_ (by simp) hj
    obtain ⟨q2, z2⟩ := at_ (by simp) hk
    rw [List.getElem?_set_ne (Ne.symm q)] at hl'
    rw [List.getElem?_set_ne (Ne.symm q2)]
    exact s.apart j k e e' l' hjk z z2 hl'
/-- an own object becomes a datum -/
theorem StR.freeze {E : Am} {B F H : Hp} {σ : L2.St} {ρ : Ev} (s : StR E B F H σ ρ) {i : Nat} {d : D} (hi : ρ[i]? = some (.own d)) :
    ∃ l ho, H l = some ho ∧ F l = none ∧ B l = none ∧ StR E B (upd F l ho) H σ (ρ.set i (.dat d)) := by
  obtain ⟨l, ho, h1, h2, h3, h4, h5⟩ := s.own i d hi
  have sf : Same F (upd F l ho) := same_upd_self h3
  have hlt : i < ρ.length := (List.getElem?_eq_some_iff.mp hi).1
  refine ⟨l, ho, h2, h3, h4, by simp [s.len], fun j e hj => ?_, fun j e hj => ?_, fun j k e e' l' hjk hj hk hl' => ?_⟩
  · by_cases q : i = j
    · subst q
      rw [List.getElem?_set_self hlt] at hj; cases hj
      exact ⟨_, h1, (h5.mono sf).rep upd_same⟩
    · rw [List.getElem?_set_ne q] at hj
      obtain ⟨v, e1, e2⟩ := s.dat j e hj
      exact ⟨v, e1, Rep.mono sf _ _ e2⟩
  · by_cases q : i = j
    · subst q
      rw [List.getElem?_set_self hlt] at hj; cases hj
    · rw [List.getElem?_set_ne q] at hj
      obtain ⟨l', ho', g1, g2, g3, g4, g5⟩ := s.own j e hj
      have ne : l' ≠ l := fun z => by subst z; exact s.apart i j d e l' q hi hj h1 g1
      exact ⟨l', ho', g1, g2, by rw [upd_ne ne]; exact g3, g4, g5.mono sf⟩
  · have qj : i ≠ j := fun z => by
      subst z; rw [List.getElem?_set_self hlt] at hj; cases hj
    have qk : i ≠ k := fun z => by
      subst z; rw [List.getElem?_set_self hlt] at hk; cases hk
    rw [List.getElem?_set_ne qj] at hj
    rw [List.getElem?_set_ne qk] at hk
    exact s.apart j k e e' l' hjk hj hk hl'
/-- an own object is written -/
theorem StR.write {E : Am} {B F H : Hp} {σ : L2.St} {ρ : Ev} (s : StR E B F H σ ρ) {i : Nat} {d d' : D} {l : Addr} {ho' : HO} (hi : ρ[i]? = some (.own d)) (hs : σ[i]? = some (some (.ref l))) (hf : F l = none) (hb : B l = none) (h : OwnR E F d' ho') :
    StR E B F (upd H l ho') σ (ρ.set i (.own d')) := by
  have hlt : i < ρ.length := (List.getElem?_eq_some_iff.mp hi).1
  refine ⟨by simp [s.len], fun j e hj => ?_, fun j e hj => ?_, fun j k e e' l' hjk hj hk hl' => ?_⟩
  · by_cases q : i = j
    · subst q; rw [List.getElem?_set_self hlt] at hj; cases hj
    · rw [List.getElem?_set_ne q] at hj; exact s.dat j e hj
  · by_cases q : i = j
    · subst q
      rw [List.getElem?_set_self hlt] at hj; cases hj
      exact ⟨l, ho', hs, upd_same, hf, hb, h⟩
    · rw [List.getElem?_set_ne q] at hj
      obtain ⟨l', ho2, g1, g2, g3, g4, g5⟩ := s.own j e hj
      have ne : l' ≠ l := fun z => by subst z; exact s.apart i j d e l' q hi hj hs g1
      exact ⟨l', ho2, g1, by rw [upd_ne ne]; exact g2, g3, g4, g5⟩
  · have oj : ∃ e1, ρ[j]? = some (.own e1) := by
      by_cases q : i = j
      · subst q; exact ⟨d, hi⟩
      · rw [List.getElem?_set_ne q] at hj; exact ⟨e, hj⟩
    have ok : ∃ e1, ρ[k]? = some (.own e1) := by
      by_cases q : i = k
      · subst q; exact ⟨d, hi⟩
      · rw [List.getElem?_set_ne q] at hk; exact ⟨e', hk⟩
    obtain ⟨e1, o1⟩ := oj
    obtain ⟨e2, o2⟩ := ok
    exact s.apart j k e1 e2 l' hjk o1 o2 hl'

/-! ## results -/
inductive Rs (α : Type) where
  | ok (a : α) | err (c : Str) (x : Option (Str × D)) | no
@[simp] def Rs.bind {α β : Type} : Rs α → (α → Rs β) → Rs β
  | .ok a, f => f a
  | .err c x, _ => .err c x
  | .no, _ => .no
/-- an exception that flies -/
def ErrP (E : Am) (F H : Hp) (c : Str) (x : Option (Str × D)) (cls : Value) (dd : Option Addr) : Prop :=
  cls = .ref (E.cl c) ∧ match x with
    | none => dd = none
    | some (f, d) => ∃ a v, dd = some a ∧ H a = some (.xd [(f, v)]) ∧ Rep E F d v
/-- strict and loose values -/
def RepO (E : Am) (F H : Hp) (d : D) (v : V) : Prop := Rep E F d v ∨ ∃ l ho, v = .ref l ∧ H l = some ho ∧ OwnR E F d ho
theorem RepO.mono {E : Am} {F H F' H' : Hp} {d : D} {v : V} (h : RepO E F H d v) (x : Ext F H F' H') : RepO E F' H' d v := by
  rcases h with h | ⟨l, ho, h1, h2, h3⟩
  · exact .inl (Rep.mono x.f _ _ h)
  · exact .inr ⟨l, ho, h1, x.h _ _ h2, h3.mono x.f⟩
/-- what is wanted behind an evaluation: G says what is known of the value -/
def Post {α β : Type} (E : Am) (W : WX) (σ : L2.St) (F H : Hp) (G : Hp → Hp → α → β → Prop) (Q : β → Hp → Prop) : Rs α → Prop
  | .ok a => ∀ F' H' b, Ext F H F' H' → G F' H' a b → Q b H'
  | .err c x => ∀ F' H' cls dd, Ext F H F' H' → ErrP E F' H' c x cls dd → W cls dd σ H'
  | .no => False
/-- the reading t evaluates as p says (G: what is known of the value; its first place is the heap at the start) -/
def Evals {α β : Type} (E : Am) (W : WX) (G : Hp → Hp → Hp → α → β → Prop) (t : L2.St → Hp → (β → Hp → Prop) → Prop) (p : Ev → Rs α) : Prop :=
  ∀ (B F H : Hp) (σ : L2.St) (ρ : Ev) (Q : β → Hp → Prop), Same F H → Same B H → StR E B F H σ ρ → Post E W σ F H (G H) Q (p ρ) → t σ H Q
abbrev GS (E : Am) : Hp → Hp → Hp → D → V → Prop := fun _ F _ d v => Rep E F d v
abbrev GL (E : Am) : Hp → Hp → Hp → D → V → Prop := fun _ F H d v => RepO E F H d v
/-- a new own object -/
def GN (E : Am) : Hp → Hp → Hp → D → V → Prop := fun H0 F H d v => ∃ l ho, v = .ref l ∧ H0 l = none ∧ F l = none ∧ H l = some ho ∧ OwnR E F d ho
abbrev GA (E : Am) : Hp → Hp → Hp → List D → List V → Prop := fun _ F _ ds vs => RepL E F ds vs
def RepOL (E : Am) (F H : Hp) : List D → List V → Prop
  | [], vs => vs = []
  | d :: ds, vs => ∃ v r, vs = v :: r ∧ RepO E F H d v ∧ RepOL E F H ds r
abbrev GAL (E : Am) : Hp → Hp → Hp → List D → List V → Prop := fun _ F H ds vs => RepOL E F H ds vs
abbrev GB : Hp → Hp → Hp → Bool → Bool → Prop := fun _ _ _ a b => a = b
theorem Post.imp {α β : Type} {E : Am} {W : WX} {σ : L2.St} {F H : Hp} {G G' : Hp → Hp → α → β → Prop} {Q : β → Hp → Prop} {r : Rs α} (h : Post E W σ F H G Q r) (g : ∀ F' H' a b, Ext F H F' H' → G' F' H' a b → G F' H' a b) : Post E W σ F H G' Q r := by
  cases r with
  | ok a => exact fun F' H' b x q => h F' H' b x (g F' H' a b x q)
  | err c x => exact h
  | no => exact h
/-- behind a first evaluation -/
theorem Post.after {α β : Type} {E : Am} {W : WX} {σ : L2.St} {F H F1 H1 : Hp} {G : Hp → Hp → α → β → Prop} {Q : β → Hp → Prop} {r : Rs α} (x : Ext F H F1 H1) (h : Post E W σ F H G Q r) : Post E W σ F1 H1 G Q r := by
  cases r with
  | ok a => exact fun F' H' b y q => h F' H' b (x.trans y) q
  | err c z => exact fun F' H' cls dd y q => h F' H' cls dd (x.trans y) q
  | no => exact h
/-- one evaluation, then another -/
theorem Evals.seq {α β γ δ : Type} {E : Am} {W : WX} {G : Hp → Hp → Hp → α → β → Prop} {G2 : Hp → Hp → γ → δ → Prop} {t : L2.St → Hp → (β → Hp → Prop) → Prop} {p : Ev → Rs α} {k : α → Rs γ}
    {B F H : Hp} {σ : L2.St} {ρ : Ev} {Q : δ → Hp → Prop} {K : β → Hp → Prop} (h : Evals E W G t p) (s : Same F H) (sb : Same B H) (r : StR E B F H σ ρ) (post : Post E W σ F H G2 Q ((p ρ).bind k))
    (step : ∀ F1 H1 a b, p ρ = .ok a → Ext F H F1 H1 → Same B H1 → StR E B F1 H1 σ ρ → G H F1 H1 a b → Post E W σ F1 H1 G2 Q (k a) → K b H1) : t σ H K := by
  refine h B F H σ ρ K s sb r ?_
  cases e : p ρ with
  | ok a =>
    rw [e] at post
    exact fun F1 H1 b x g => step F1 H1 a b e x (sb.trans x.h) (r.mono x) g (Post.after x post)
  | err c z => rw [e] at post; exact post
  | no => rw [e] at post; exact post

/-! ## judgements on the text -/
/-- an expression over a family of contexts: strict, loose -/
def XE {I : Type} (X : I → Cx) (E : Am) (W : WX) (e : Expr) (p : Ev → Rs D) : Prop := ∃ t, (∀ i, PE (X i) e t) ∧ Evals E W (GS E) t p
def XL {I : Type} (X : I → Cx) (E : Am) (W : WX) (e : Expr) (p : Ev → Rs D) : Prop := ∃ t, (∀ i, PE (X i) e t) ∧ Evals E W (GL E) t p
def XA {I : Type} (X : I → Cx) (E : Am) (W : WX) (es : List Expr) (p : Ev → Rs (List D)) : Prop := ∃ t, (∀ i, PA (X i) es t) ∧ Evals E W (GA E) t p
def XT {I : Type} (X : I → Cx) (E : Am) (W : WX) (e : Expr) (p : Ev → Rs Bool) : Prop := ∃ t, (∀ i, PT (X i) e t) ∧ Evals E W GB t p
def XW {I : Type} (X : I → Cx) (E : Am) (W : WX) (e : Expr) (p : Ev → Rs Bool) : Prop := ∃ t, (∀ i, PW (X i) e t) ∧ Evals E W GB t p
/-- a new own object -/
def XN {I : Type} (X : I → Cx) (E : Am) (W : WX) (e : Expr) (p : Ev → Rs D) : Prop := ∃ t, (∀ i, PE (X i) e t) ∧ Evals E W (GN E) t p
def XAL {I : Type} (X : I → Cx) (E : Am) (W : WX) (es : List Expr) (p : Ev → Rs (List D)) : Prop := ∃ t, (∀ i, PA (X i) es t) ∧ Evals E W (GAL E) t p
theorem Evals.frz {E : Am} {W : WX} {t : TE} {p : Ev → Rs D} (h : Evals E W (GN E) t p) : Evals E W (GS E) t p := by
  intro B F H σ ρ Q s sb r post
  refine h B F H σ ρ Q s sb r ?_
  cases e : p ρ with
  | no => rw [e] at post; exact post
  | err c z => rw [e] at post; exact post
  | ok d =>
    rw [e] at post
    rintro F' H' v x ⟨l, ho, rfl, h1, h2, h3, h4⟩
    have sf : Same F' (upd F' l ho) := same_upd_self h2
    exact post (upd F' l ho) H' _ ⟨x.f.trans sf, x.h, fun b u q => by
      by_cases z : b = l
      · subst z; rw [upd_same] at q; rw [h3]; exact q
      · rw [upd_ne z] at q; exact x.fh b u q, fun a ha => by
      have : a ≠ l := fun z => ha (by rw [z]; exact h1)
      rw [upd_ne this]; exact x.nf a ha⟩ ((h4.mono sf).rep upd_same)
theorem XN.xe {I : Type} {X : I → Cx} {E : Am} {W : WX} {e : Expr} {p : Ev → Rs D} (h : XN X E W e p) : XE X E W e p := by
  obtain ⟨t, h1, h2⟩ := h
  exact ⟨t, h1, h2.frz⟩
theorem RepOL.mono {E : Am} {F H F' H' : Hp} (x : Ext F H F' H') : ∀ {ds : List D} {vs : List V}, RepOL E F H ds vs → RepOL E F' H' ds vs
  | [], vs, h => h
  | d :: ds, vs, h => by
    obtain ⟨v, r, h1, h2, h3⟩ := h
    exact ⟨v, r, h1, h2.mono x, RepOL.mono x h3⟩
theorem XE.loose {I : Type} {X : I → Cx} {E : Am} {W : WX} {e : Expr} {p : Ev → Rs D} (h : XE X E W e p) : XL X E W e p := by
  obtain ⟨t, h1, h2⟩ := h
  exact ⟨t, h1, fun B F H σ ρ Q s sb r post => h2 B F H σ ρ Q s sb r (post.imp fun F' H' a b _ g => .inl g)⟩
/-- what holds of every context of a family: k calls of room -/
structure Ctx {I : Type} (X : I → Cx) (E : Am) (W : WX) (k : Nat) : Prop where
  K : ∀ i, (X i).K = E.K
  calm : ∀ i, (X i).calm = true
  room : ∀ i, Room k (X i).A
  tk : ∀ i, Takes (X i) W
  po : ∀ i, PassesOwn (model (X i).prog (X i).w) (X i).A (X i).env (X i).xe
theorem Ctx.hu {I : Type} {X : I → Cx} {E : Am} {W : WX} {k : Nat} (c : Ctx X E W k) (i : I) : (X i).A.units + 200 < cLine := by
  have := (c.room i).un
  omega
end DL
end

section
set_option linter.all false
set_option maxRecDepth 100000
set_option maxHeartbeats 4000000
namespace DL
open PySem PySem.Spec L2
variable {I : Type} {X : I → Cx} {Y : Cx} {E : Am} {W : WX}

/-! ## small evaluations -/
theorem ev_ok {α β : Type} {E : Am} {W : WX} {G : Hp → Hp → α → β → Prop} {F H : Hp} {σ : L2.St} {Q : β → Hp → Prop} {a : α} {b : β} (s : Same F H) (p : Post E W σ F H G Q (.ok a)) (g : G F H a b) : Q b H := p F H b (Ext.refl s) g
/-- the datum in a slot -/
def pV (i : Nat) : Ev → Rs D := fun ρ => match ρ[i]? with | some (.dat d) => .ok d | _ => .no
/-- the datum or own object in a slot, to be looked at -/
def pVo (i : Nat) : Ev → Rs D := fun ρ => match ρ[i]? with | some (.dat d) => .ok d | some (.own d) => .ok d | _ => .no
def pC (d : D) : Ev → Rs D := fun _ => .ok d
theorem xe_var {e : Expr} {i : Nat} (h : ∀ j, PE (X j) e (tVar i)) : XE X E W e (pV i) := by
  refine ⟨_, h, fun B F H σ ρ Q s sb r post => ?_⟩
  unfold pV at post
  split at post
  · rename_i d e
    obtain ⟨v, h1, h2⟩ := r.dat i d e
    exact ⟨v, h1, ev_ok s post h2⟩
  · exact post.elim
theorem xl_var {e : Expr} {i : Nat} (h : ∀ j, PE (X j) e (tVar i)) : XL X E W e (pVo i) := by
  refine ⟨_, h, fun B F H σ ρ Q s sb r post => ?_⟩
  unfold pVo at post
  split at post
  · rename_i d e
    obtain ⟨v, h1, h2⟩ := r.dat i d e
    exact ⟨v, h1, ev_ok s post (.inl h2)⟩
  · rename_i d e
    obtain ⟨l, ho, h1, h2, h3, h4, h5⟩ := r.own i d e
    exact ⟨_, h1, ev_ok s post (.inr ⟨l, ho, rfl, h2, h5⟩)⟩
  · exact post.elim
/-- a constant of the text or of the module -/
theorem xe_c {e : Expr} {v : V} {d : D} (h : ∀ j, PE (X j) e (tC v)) (hd : ∀ F, Rep E F d v) : XE X E W e (pC d) :=
  ⟨_, h, fun B F H σ ρ Q s sb r post => ev_ok s post (hd F)⟩
theorem xe_int {i : Int} {j : Nat} {pos : Pos} : XE X E W (.Constant (.int i) j pos) (pC (.int i)) := xe_c (fun _ => pe_int) fun _ => rfl
theorem xe_bl {b : Bool} {j : Nat} {pos : Pos} : XE X E W (.Constant (.bool b) j pos) (pC (.bl b)) := xe_c (fun _ => pe_bl) fun _ => rfl
theorem xe_non {j : Nat} {pos : Pos} : XE X E W (.Constant .none j pos) (pC .non) := xe_c (fun _ => pe_non) fun _ => rfl
theorem xe_str {x : Str} {j : Nat} {pos : Pos} : XE X E W (.Constant (.str x) j pos) (pC (.str x)) := xe_c (fun _ => pe_str) fun _ => rfl

/-! ## two-place operations -/
/-- r does f to data -/
def OpS (E : Am) (r : R2) (f : D → D → Rs D) : Prop :=
  ∀ (W : WX) (F H : Hp) (σ : L2.St) (dx dy : D) (x y : V) (Q : VK), Same F H → RepO E F H dx x → RepO E F H dy y → Post E W σ F H (GS E H) Q (f dx dy) → r x y H Q
def pBin (f : D → D → Rs D) (pa pb : Ev → Rs D) : Ev → Rs D := fun ρ => (pa ρ).bind fun x => (pb ρ).bind fun y => f x y
theorem evals_op {r : R2} {f : D → D → Rs D} {ta tb : TE} {pa pb : Ev → Rs D} (ho : OpS E r f) (ha : Evals E W (GL E) ta pa) (hb : Evals E W (GL E) tb pb) : Evals E W (GS E) (tOp r ta tb) (pBin f pa pb) := by
  intro B F H σ ρ Q s sb r0 post
  show ta σ H _
  refine Evals.seq ha s sb r0 post fun F1 H1 dx x e1 x1 sb1 r1 g1 post1 => ?_
  refine Evals.seq hb x1.fh sb1 r1 post1 fun F2 H2 dy y e2 x2 sb2 r2 g2 post2 => ?_
  exact ho W F2 H2 σ dx dy x y Q x2.fh (g1.mono x2) g2 post2
theorem xe_bin {op : Operator} {a b : Expr} {pos : Pos} {r : R2} {f : D → D → Rs D} {pa pb : Ev → Rs D} (h1 : ∀ i, OpR (X i) (binaryOp op) r) (h2 : OpS E r f) (ha : XL X E W a pa) (hb : XL X E W b pb) : XE X E W (.BinOp a op b pos) (pBin f pa pb) := by
  obtain ⟨ta, a1, a2⟩ := ha
  obtain ⟨tb, b1, b2⟩ := hb
  exact ⟨_, fun i => pe_op (h1 i) (a1 i) (b1 i), evals_op h2 a2 b2⟩
theorem xe_cmp {op : CmpOp} {a b : Expr} {pos : Pos} {r : R2} {f : D → D → Rs D} {pa pb : Ev → Rs D} (h1 : ∀ i, OpR (X i) (compareOp op) r) (h2 : OpS E r f) (ha : XL X E W a pa) (hb : XL X E W b pb) (hm : behindInMarks op b = false) : XE X E W (.Compare a [op] [b] pos) (pBin f pa pb) := by
  obtain ⟨ta, a1, a2⟩ := ha
  obtain ⟨tb, b1, b2⟩ := hb
  exact ⟨_, fun i => pe_cmpR (h1 i) (a1 i) (b1 i) hm, evals_op h2 a2 b2⟩
def toB : D → Rs Bool | .bl b => .ok b | _ => .no
theorem evals_test {t : TE} {p : Ev → Rs D} (h : Evals E W (GS E) t p) : Evals E W GB (tTest t) (fun ρ => (p ρ).bind toB) := by
  intro B F H σ ρ Q s sb r post
  show t σ H _
  refine Evals.seq h s sb r post fun F1 H1 d v e1 x1 sb1 r1 g1 post1 => ?_
  cases d <;> first | exact post1.elim | skip
  rename_i b
  exact ⟨b, g1, ev_ok x1.fh post1 rfl⟩
theorem xt_cmp {op : CmpOp} {a b : Expr} {pos : Pos} {r : R2} {f : D → D → Rs D} {pa pb : Ev → Rs D} (h1 : ∀ i, OpR (X i) (compareOp op) r) (h2 : OpS E r f) (ha : XL X E W a pa) (hb : XL X E W b pb) (hm : behindInMarks op b = false) : XT X E W (.Compare a [op] [b] pos) (fun ρ => (pBin f pa pb ρ).bind toB) := by
  obtain ⟨ta, a1, a2⟩ := ha
  obtain ⟨tb, b1, b2⟩ := hb
  exact ⟨_, fun i => pt_cmpR (h1 i) (a1 i) (b1 i) hm, evals_test (evals_op h2 a2 b2)⟩
/-- a chain a op b op' c -/
def pChain (f f' : D → D → Rs D) (pa pb pc : Ev → Rs D) : Ev → Rs D := fun ρ => (pa ρ).bind fun x => (pb ρ).bind fun y => (f x y).bind fun z => match z with | .bl true => (pc ρ).bind fun w => f' y w | .bl false => .ok (.bl false) | _ => .no
theorem evals_chain {r r' : R2} {f f' : D → D → Rs D} {ta tb tc : TE} {pa pb pc : Ev → Rs D} (ho : OpS E r f) (ho' : OpS E r' f') (ha : Evals E W (GL E) ta pa) (hb : Evals E W (GL E) tb pb) (hc : Evals E W (GL E) tc pc) : Evals E W (GS E) (tChain r r' ta tb tc) (pChain f f' pa pb pc) := by
  intro B F H σ ρ Q s sb r0 post
  show ta σ H _
  refine Evals.seq ha s sb r0 post fun F1 H1 dx x e1 x1 sb1 r1 g1 post1 => ?_
  refine Evals.seq hb x1.fh sb1 r1 post1 fun F2 H2 dy y e2 x2 sb2 r2 g2 post2 => ?_
  refine ho W F2 H2 σ dx dy x y _ x2.fh (g1.mono x2) g2 ?_
  cases e : f dx dy with
  | no => rw [e] at post2; exact post2
  | err c z => rw [e] at post2; exact post2
  | ok z =>
    rw [e] at post2
    intro F3 H3 v x3 g3
    cases z with
    | bl k =>
      obtain rfl : v = .bl k := g3
      refine ⟨k, rfl, ?_⟩
      cases k with
      | true =>
        rw [if_pos rfl]
        refine Evals.seq hc x3.fh (sb2.trans x3.h) (r2.mono x3) (Post.after x3 post2) fun F4 H4 dw w' e4 x4 sb4 r4 g4 post4 => ?_
        exact ho' W F4 H4 σ dy dw y w' Q x4.fh ((g2.mono x3).mono x4) g4 post4
      | false =>
        rw [if_neg Bool.false_ne_true]
        exact post2 F3 H3 _ x3 rfl
    | _ => exact post2.elim
theorem xe_chain {op op' : CmpOp} {a b c : Expr} {pos : Pos} {r r' : R2} {f f' : D → D → Rs D} {pa pb pc : Ev → Rs D} (h1 : ∀ i, OpR (X i) (compareOp op) r) (h2 : OpS E r f) (h3 : ∀ i, OpR (X i) (compareOp op') r') (h4 : OpS E r' f') (ha : XL X E W a pa) (hb : XL X E W b pb) (hc : XL X E W c pc)
    (hm : lastMarks [op, op'] [b, c] = false := by with_unfolding_all rfl) : XE X E W (.Compare a [op, op'] [b, c] pos) (pChain f f' pa pb pc) := by
  obtain ⟨ta, a1, a2⟩ := ha
  obtain ⟨tb, b1, b2⟩ := hb
  obtain ⟨tc, c1, c2⟩ := hc
  exact ⟨_, fun i => pe_chain (h1 i) (h3 i) (a1 i) (b1 i) (c1 i) hm, evals_chain h2 h4 a2 b2 c2⟩
theorem xt_chain {op op' : CmpOp} {a b c : Expr} {pos : Pos} {r r' : R2} {f f' : D → D → Rs D} {pa pb pc : Ev → Rs D} (h1 : ∀ i, OpR (X i) (compareOp op) r) (h2 : OpS E r f) (h3 : ∀ i, OpR (X i) (compareOp op') r') (h4 : OpS E r' f') (ha : XL X E W a pa) (hb : XL X E W b pb) (hc : XL X E W c pc)
    (hm : lastMarks [op, op'] [b, c] = false := by with_unfolding_all rfl) : XT X E W (.Compare a [op, op'] [b, c] pos) (fun ρ => (pChain f f' pa pb pc ρ).bind toB) := by
  obtain ⟨ta, a1, a2⟩ := ha
  obtain ⟨tb, b1, b2⟩ := hb
  obtain ⟨tc, c1, c2⟩ := hc
  exact ⟨_, fun i => pt_chain (h1 i) (h3 i) (a1 i) (b1 i) (c1 i) hm, evals_test (evals_chain h2 h4 a2 b2 c2)⟩

/-! ### ints -/
def fI (g : Int → Int → D) : D → D → Rs D | .int i, .int j => .ok (g i j) | _, _ => .no
def fIC (C : Int → Int → Bool) (g : Int → Int → D) : D → D → Rs D | .int i, .int j => if C i j then .ok (g i j) else .no | _, _ => .no
theorem repO_int {F H : Hp} {i : Int} {v : V} (h : RepO E F H (.int i) v) : v = .int i := by
  rcases h with h | ⟨_, _, _, _, h⟩
  · exact h
  · exact h.elim
theorem repO_bl {F H : Hp} {b : Bool} {v : V} (h : RepO E F H (.bl b) v) : v = .bl b := by
  rcases h with h | ⟨_, _, _, _, h⟩
  · exact h
  · exact h.elim
theorem repO_str {F H : Hp} {x : Str} {v : V} (h : RepO E F H (.str x) v) : v = .str x := by
  rcases h with h | ⟨_, _, _, _, h⟩
  · exact h
  · exact h.elim
theorem repO_non {F H : Hp} {v : V} (h : RepO E F H .non v) : v = .non := by
  rcases h with h | ⟨_, _, _, _, h⟩
  · exact h
  · exact h.elim
theorem repO_tup {F H : Hp} {ds : List D} {v : V} (h : RepO E F H (.tup ds) v) : Rep E F (.tup ds) v := by
  rcases h with h | ⟨_, _, _, _, h⟩
  · exact h
  · exact h.elim
theorem ops_I {g : Int → Int → V} {g' : Int → Int → D} (h : ∀ i j F, Rep E F (g' i j) (g i j)) : OpS E (rI0 g) (fI g') := by
  intro W F H σ dx dy x y Q s h1 h2 post
  cases dx <;> first | exact post.elim | skip
  cases dy <;> first | exact post.elim | skip
  exact ⟨_, _, repO_int h1, repO_int h2, ev_ok s post (h _ _ F)⟩
theorem ops_IC {C : Int → Int → Prop} {C' : Int → Int → Bool} {g : Int → Int → V} {g' : Int → Int → D} (hc : ∀ i j, C' i j = true → C i j) (h : ∀ i j F, Rep E F (g' i j) (g i j)) : OpS E (rI C g) (fIC C' g') := by
  intro W F H σ dx dy x y Q s h1 h2 post
  cases dx <;> first | exact post.elim | skip
  cases dy <;> first | exact post.elim | skip
  rename_i i j
  have post : Post E W σ F H (GS E H) Q (if C' i j = true then .ok (g' i j) else .no) := post
  by_cases c : C' i j = true
  · rw [if_pos c] at post
    exact ⟨_, _, repO_int h1, repO_int h2, hc _ _ c, ev_ok s post (h _ _ F)⟩
  · rw [if_neg c] at post; exact post.elim
def fSub := fI fun i j => .int (i - j)
def mulOk (i j : Int) : Bool := decide (i.natAbs < 2 ^ 64) || decide (j.natAbs < 2 ^ 64) || decide (i.natAbs.log2 + j.natAbs.log2 < 1000000)
def fMul := fIC mulOk fun i j => .int (i * j)
def divOk (_ j : Int) : Bool := decide (0 < j) && decide (j.natAbs.log2 < 9000)
def fDiv := fIC divOk fun i j => .int (i / j)
def fMod := fIC (fun _ j => decide (0 < j)) fun i j => .int (i % j)
def powOk (i j : Int) : Bool := decide (0 ≤ j) && decide (j ≤ 1000000) && decide (i.natAbs < 2 ^ 64)
def fPow := fIC powOk fun i j => .int (i ^ j.toNat)
def fLt := fI fun i j => .bl (decide (i < j))
def fLe := fI fun i j => .bl (decide (i ≤ j))
def fGt := fI fun i j => .bl (decide (j < i))
def fGe := fI fun i j => .bl (decide (j ≤ i))
theorem ops_sub : OpS E (rI0 fun i j => .int (i - j)) fSub := ops_I fun _ _ _ => rfl
theorem ops_lt : OpS E (rI0 fun i j => .bl (decide (i < j))) fLt := ops_I fun _ _ _ => rfl
theorem ops_le : OpS E (rI0 fun i j => .bl (decide (i ≤ j))) fLe := ops_I fun _ _ _ => rfl
theorem ops_gt : OpS E (rI0 fun i j => .bl (decide (j < i))) fGt := ops_I fun _ _ _ => rfl
theorem ops_ge : OpS E (rI0 fun i j => .bl (decide (j ≤ i))) fGe := ops_I fun _ _ _ => rfl
def CMulA (i j : Int) : Prop := CMul i j ∨ CMulW i j
theorem op_mulA : OpR Y (binaryOp .Mult) (rI CMulA fun i j => .int (i * j)) := opI fun _ _ _ _ _ _ _ hc q => PyProof.Rows.mul_int q (hc.elim CMul.ok CMulW.ok)
theorem ops_mul : OpS E (rI CMulA fun i j => .int (i * j)) fMul := ops_IC (fun i j h => by
  unfold mulOk at h
  rcases Bool.or_eq_true_iff.mp h with h | h
  · rcases Bool.or_eq_true_iff.mp h with h | h
    · have := of_decide_eq_true h
      exact .inl (.inl ⟨by omega, by omega⟩)
    · have := of_decide_eq_true h
      exact .inl (.inr ⟨by omega, by omega⟩)
  · exact .inr (show i.natAbs.log2 + j.natAbs.log2 < 1000000 from of_decide_eq_true h)) fun _ _ _ => rfl
theorem ops_div : OpS E (rI CDivW fun i j => .int (i / j)) fDiv := ops_IC (fun i j h => by
  obtain ⟨h1, h2⟩ := Bool.and_eq_true_iff.mp h
  exact ⟨of_decide_eq_true h1, of_decide_eq_true h2⟩) fun _ _ _ => rfl
theorem ops_mod : OpS E (rI (fun _ j => 0 < j) fun i j => .int (i % j)) fMod := ops_IC (fun i j h => of_decide_eq_true h) fun _ _ _ => rfl
theorem ops_pow : OpS E (rI CPow fun i j => .int (i ^ j.toNat)) fPow := ops_IC (fun i j h => by
  obtain ⟨h1, h2⟩ := Bool.and_eq_true_iff.mp h
  obtain ⟨h0, h1⟩ := Bool.and_eq_true_iff.mp h1
  exact ⟨of_decide_eq_true h0, of_decide_eq_true h1, of_decide_eq_true h2⟩) fun _ _ _ => rfl
end DL
end

section
set_option linter.all false
set_option maxRecDepth 100000
set_option maxHeartbeats 4000000
namespace DL
open PySem PySem.Spec L2
variable {I : Type} {X : I → Cx} {Y : Cx} {E : Am} {W : WX}

/-! ## data as the library's data -/
mutual
def toPy : D → PyData
  | .non => .none
  | .bl b => .bool b
  | .int i => .int i
  | .str x => .str x
  | .tup ds => .tuple (toPyL ds)
  | .lst ds => .list (toPyL ds)
  | .kl ds => .list (toPyL ds)
  | .ins _ _ _ => .dict []
  | .dk _ _ => .dict []
  | .dt _ _ => .dict []
def toPyL : List D → List PyData
  | [] => []
  | d :: ds => toPy d :: toPyL ds
end
theorem toPyL_map : ∀ ds : List D, toPyL ds = ds.map toPy
  | [] => rfl
  | d :: ds => by show toPy d :: toPyL ds = _; rw [toPyL_map ds]; rfl
mutual
theorem Rep.dp {F H : Hp} (s : Same F H) : ∀ (d : D) (v : V), (toPy d).canLay0 = true → Rep E F d v → Dp E.K H v (toPy d)
  | .non, v, _, h => by cases h; exact .non
  | .bl b, v, _, h => by cases h; exact .bl b
  | .int i, v, _, h => by cases h; exact .int i
  | .str x, v, _, h => by cases h; exact .str x
  | .tup ds, v, c, h => by
    obtain ⟨a, vs, rfl, h2, h3⟩ := h
    exact .tup (sqT_mono s h2) (RepL.dp s ds vs c h3)
  | .lst ds, v, c, h => by
    obtain ⟨a, vs, rfl, h2, h3⟩ := h
    exact .lst (SqL.of (s _ _ h2)) (RepL.dp s ds vs c h3)
  | .kl ds, v, c, h => by
    obtain ⟨a, vs, rfl, h2, h3⟩ := h
    exact .lst (sqL_mono s h2) (RepL.dp s ds vs c h3)
  | .ins _ _ _, v, c, h => by simp [toPy, PyData.canLay0] at c
  | .dk _ _, v, c, h => by simp [toPy, PyData.canLay0] at c
  | .dt _ _, v, c, h => by simp [toPy, PyData.canLay0] at c
theorem RepL.dp {F H : Hp} (s : Same F H) : ∀ (ds : List D) (vs : List V), PyData.canLayAll0 (toPyL ds) = true → RepL E F ds vs → DpAll E.K H vs (toPyL ds)
  | [], vs, _, h => by cases h; exact .nil
  | d :: ds, vs, c, h => by
    obtain ⟨v, r, rfl, h2, h3⟩ := h
    have c' : ((toPy d).canLay0 && PyData.canLayAll0 (toPyL ds)) = true := c
    obtain ⟨c1, c2⟩ := Bool.and_eq_true_iff.mp c'
    exact .cons (Rep.dp s d v c1 h2) (RepL.dp s ds r c2 h3)
end
theorem RepO.dp {F H : Hp} (s : Same F H) {d : D} {v : V} (c : (toPy d).canLay0 = true) (h : RepO E F H d v) : Dp E.K H v (toPy d) := by
  rcases h with h | ⟨l, ho, rfl, h1, h2⟩
  · exact Rep.dp s d v c h
  · cases d with
    | lst ds =>
      obtain ⟨vs, rfl, h3⟩ := h2
      exact .lst (SqL.of h1) (RepL.dp s ds vs c h3)
    | ins _ _ _ => simp [toPy, PyData.canLay0] at c
    | dk _ _ => simp [toPy, PyData.canLay0] at c
    | dt _ _ => simp [toPy, PyData.canLay0] at c
    | _ => exact h2.elim

/-! ## == and != -/
def shp (d : D) : Bool := SeqAt.shaped (toPy d)
def deq (a b : D) : Bool := PyData.eqv (toPy a) (toPy b)
def fEq : D → D → Rs D
  | .str x, .str y => .ok (.bl (decide (x = y)))
  | a, b => if shp a && shp b then .ok (.bl (deq a b)) else .no
def fNe : D → D → Rs D
  | .str x, .str y => .ok (.bl (!decide (x = y)))
  | a, b => if shp a && shp b then .ok (.bl (!deq a b)) else .no
def rEqA (K : PySem.W.Frag) : R2 := fun x y H Q => rEq x y H Q ∨ rEqD K x y H Q
def rNeA (K : PySem.W.Frag) : R2 := fun x y H Q => rNe x y H Q ∨ rNeD K x y H Q
theorem op_eqA (hu : Y.A.units + 64 < cLine) : OpR Y (compareOp .Eq) (rEqA Y.K) := op_eq.or (op_eqD hu)
theorem op_neA (hu : Y.A.units + 64 < cLine) : OpR Y (compareOp .NotEq) (rNeA Y.K) := op_ne.or (op_neD hu)
theorem ops_eq : OpS E (rEqA E.K) fEq := by
  intro W F H σ dx dy x y Q s h1 h2 post
  unfold fEq at post
  split at post
  · rename_i x' y'
    cases repO_str h1
    cases repO_str h2
    refine .inl ⟨rfl, ?_⟩
    have e : decide (V.str x' = V.str y') = decide (x' = y') := by
      by_cases q : x' = y'
      · subst q; simp
      · simp [q]
    rw [e]
    exact ev_ok s post rfl
  · by_cases c : (shp dx && shp dy) = true
    · rw [if_pos c] at post
      obtain ⟨c1, c2⟩ := Bool.and_eq_true_iff.mp c
      exact .inr ⟨_, _, h1.dp s (SeqAt.canLay_of_shaped c1), h2.dp s (SeqAt.canLay_of_shaped c2), c1, c2, ev_ok s post rfl⟩
    · rw [if_neg c] at post; exact post.elim
theorem ops_ne : OpS E (rNeA E.K) fNe := by
  intro W F H σ dx dy x y Q s h1 h2 post
  unfold fNe at post
  split at post
  · rename_i x' y'
    cases repO_str h1
    cases repO_str h2
    refine .inl ⟨rfl, ?_⟩
    have e : decide (V.str x' = V.str y') = decide (x' = y') := by
      by_cases q : x' = y'
      · subst q; simp
      · simp [q]
    rw [e]
    exact ev_ok s post rfl
  · by_cases c : (shp dx && shp dy) = true
    · rw [if_pos c] at post
      obtain ⟨c1, c2⟩ := Bool.and_eq_true_iff.mp c
      exact .inr ⟨_, _, h1.dp s (SeqAt.canLay_of_shaped c1), h2.dp s (SeqAt.canLay_of_shaped c2), c1, c2, ev_ok s post rfl⟩
    · rw [if_neg c] at post; exact post.elim

/-! ## + -/
theorem repO_lstH {F H : Hp} (s : Same F H) {ds : List D} {v : V} (h : RepO E F H (.lst ds) v) : ∃ a vs, v = .ref a ∧ H a = some (.lst vs) ∧ RepL E F ds vs := by
  rcases h with ⟨a, vs, h1, h2, h3⟩ | ⟨l, ho, h1, h2, vs, h3, h4⟩
  · exact ⟨a, vs, h1, s _ _ h2, h3⟩
  · exact ⟨l, vs, h1, by rw [h2, h3], h4⟩
/-- what a list, a tuple holds -/
def items : D → Option (List D)
  | .lst ds => some ds | .kl ds => some ds | .tup ds => some ds | _ => none
def isTup : D → Bool | .tup _ => true | _ => false
theorem repO_items {F H : Hp} (s : Same F H) {d : D} {ds : List D} {v : V} (e : items d = some ds) (h : RepO E F H d v) : ∃ a vs, v = .ref a ∧ (if isTup d then SqT E.K H a vs else SqL E.K H a vs) ∧ RepL E F ds vs := by
  cases d <;> simp only [items, Option.some.injEq] at e <;> first | contradiction | skip
  · subst e
    obtain ⟨a, vs, h1, h2, h3⟩ := repO_tup h
    exact ⟨a, vs, h1, by rw [if_pos (by rfl)]; exact sqT_mono s h2, h3⟩
  · subst e
    obtain ⟨a, vs, h1, h2, h3⟩ := repO_lstH s h
    exact ⟨a, vs, h1, by rw [if_neg (by simp [isTup])]; exact SqL.of h2, h3⟩
  · subst e
    rcases h with ⟨a, vs, h1, h2, h3⟩ | ⟨_, _, _, _, h⟩
    · exact ⟨a, vs, h1, by rw [if_neg (by simp [isTup])]; exact sqL_mono s h2, h3⟩
    · exact h.elim
theorem repO_seq {F H : Hp} (s : Same F H) {d : D} {ds : List D} {v : V} (e : items d = some ds) (h : RepO E F H d v) : ∃ a vs, v = .ref a ∧ (SqL E.K H a vs ∨ SqT E.K H a vs) ∧ RepL E F ds vs := by
  obtain ⟨a, vs, h1, h2, h3⟩ := repO_items s e h
  refine ⟨a, vs, h1, ?_, h3⟩
  split at h2
  · exact .inr h2
  · exact .inl h2
def fAdd : D → D → Rs D
  | .int i, .int j => .ok (.int (i + j))
  | .str x, .str y => if x.length + y.length ≤ sizeLine then .ok (.str (x ++ y)) else .no
  | .lst x, .lst y => if x.length + y.length ≤ sizeLine then .ok (.lst (x ++ y)) else .no
  | .tup x, .tup y => if !x.isEmpty && decide (x.length + y.length ≤ sizeLine) then .ok (.tup (x ++ y)) else .no
  | _, _ => .no
def rAddA (K : PySem.W.Frag) : R2 := fun x y H Q => rI0 (fun i j => .int (i + j)) x y H Q ∨ (∃ i j, x = .str i ∧ y = .str j ∧ i.length + j.length ≤ sizeLine ∧ Q (.str (i ++ j)) H) ∨ rCat x y H Q ∨ rCatT K x y H Q
theorem op_addA : OpR Y (binaryOp .Add) (rAddA Y.K) := op_add.or (op_add_str.or (op_cat.or op_catT))
theorem gs_newL {F H : Hp} {p : Addr} {ds : List D} {vs : List V} (s : Same F H) (hp : H p = none) (h : RepL E F ds vs) : Rep E (upd F p (.lst vs)) (.lst ds) (.ref p) := ⟨p, vs, rfl, upd_same, RepL.mono (same_upd_self (s.free hp)) _ _ h⟩
theorem gs_newT {F H : Hp} {p : Addr} {ds : List D} {vs : List V} (s : Same F H) (hp : H p = none) (h : RepL E F ds vs) : Rep E (upd F p (.tup vs)) (.tup ds) (.ref p) := ⟨p, vs, rfl, SqT.of upd_same, RepL.mono (same_upd_self (s.free hp)) _ _ h⟩
theorem ops_add : OpS E (rAddA E.K) fAdd := by
  intro W F H σ dx dy x y Q s h1 h2 post
  unfold fAdd at post
  split at post
  · exact .inl ⟨_, _, repO_int h1, repO_int h2, ev_ok s post rfl⟩
  · rename_i i j
    by_cases c : i.length + j.length ≤ sizeLine
    · rw [if_pos c] at post
      exact .inr (.inl ⟨_, _, repO_str h1, repO_str h2, c, ev_ok s post rfl⟩)
    · rw [if_neg c] at post; exact post.elim
  · rename_i i j
    by_cases c : i.length + j.length ≤ sizeLine
    · rw [if_pos c] at post
      obtain ⟨a, vs, e1, q1, r1⟩ := repO_lstH s h1
      obtain ⟨b, us, e2, q2, r2⟩ := repO_lstH s h2
      refine .inr (.inr (.inl ⟨a, b, vs, us, e1, e2, q1, q2, by rw [← r1.len, ← r2.len]; exact c, fun p hp => ?_⟩))
      exact post _ _ _ (Ext.new s hp) (gs_newL s hp (r1.append r2))
    · rw [if_neg c] at post; exact post.elim
  · rename_i i j
    by_cases c : (!i.isEmpty && decide (i.length + j.length ≤ sizeLine)) = true
    · rw [if_pos c] at post
      obtain ⟨c1, c2⟩ := Bool.and_eq_true_iff.mp c
      have c2 := of_decide_eq_true c2
      obtain ⟨a, vs, e1, q1, r1⟩ := repO_tup h1
      obtain ⟨b, us, e2, q2, r2⟩ := repO_tup h2
      refine .inr (.inr (.inr ⟨a, b, vs, us, e1, e2, sqT_mono s q1, sqT_mono s q2, ?_, by rw [← r1.len, ← r2.len]; exact c2, fun z => ?_, fun z p hp => ?_⟩))
      · intro z
        subst z
        have := r1.len
        cases i with
        | nil => simp at c1
        | cons _ _ => simp at this
      · subst z
        have : j = [] := by
          have := r2.len
          cases j with
          | nil => rfl
          | cons _ _ => simp at this
        subst this
        subst e1
        refine ev_ok s post ⟨a, vs, rfl, q1, ?_⟩
        rw [List.append_nil]; exact r1
      · exact post _ _ _ (Ext.new s hp) (gs_newT s hp (r1.append r2))
    · rw [if_neg c] at post; exact post.elim
  · exact post.elim

/-! ## is None -/
def isN : D → Bool | .non => true | _ => false
theorem rep_isN {F H : Hp} {d : D} {v : V} (h : RepO E F H d v) : decide (v = V.non) = isN d := by
  rcases h with h | ⟨l, ho, rfl, h1, h2⟩
  · cases d with
    | non => cases h; rfl
    | bl _ => cases h; rfl
    | int _ => cases h; rfl
    | str _ => cases h; rfl
    | tup _ => obtain ⟨a, vs, rfl, _⟩ := h; rfl
    | lst _ => obtain ⟨a, vs, rfl, _⟩ := h; rfl
    | kl _ => obtain ⟨a, vs, rfl, _⟩ := h; rfl
    | ins _ _ _ => obtain ⟨a, _, vs, rfl, _⟩ := h; rfl
    | dk _ _ => obtain ⟨a, vs, rfl, _⟩ := h; rfl
    | dt _ _ => obtain ⟨a, vs, rfl, _⟩ := h; rfl
  · cases d <;> first | exact h2.elim | rfl
def fIs : D → D → Rs D | d, .non => .ok (.bl (isN d)) | _, _ => .no
def fIsNot : D → D → Rs D | d, .non => .ok (.bl (!isN d)) | _, _ => .no
theorem ops_is : OpS E (fun x y H Q => y = .non ∧ Q (.bl (decide (x = .non))) H) fIs := by
  intro W F H σ dx dy x y Q s h1 h2 post
  cases dy <;> first | exact post.elim | skip
  refine ⟨repO_non h2, ?_⟩
  rw [rep_isN h1]
  exact ev_ok s post rfl
theorem ops_isNot : OpS E (fun x y H Q => y = .non ∧ Q (.bl (!decide (x = .non))) H) fIsNot := by
  intro W F H σ dx dy x y Q s h1 h2 post
  cases dy <;> first | exact post.elim | skip
  refine ⟨repO_non h2, ?_⟩
  rw [rep_isN h1]
  exact ev_ok s post rfl

/-! ## in -/
def flat : D → Bool | .non => true | .bl _ => true | .int _ => true | .str _ => true | _ => false
theorem flat_rep {F H : Hp} {d : D} {v : V} (f : flat d = true) (h : RepO E F H d v) : flatV v = true := by
  rcases h with h | ⟨_, _, _, _, h⟩
  · cases d <;> first | (cases f; done) | (cases h; rfl)
  · cases d <;> first | (cases f; done) | exact h.elim
theorem flat_eqV {F H F' H' : Hp} {d e : D} {v u : V} (fd : flat d = true) (fe : flat e = true) (h : RepO E F H d v) (h' : RepO E F' H' e u) : eqV v u = deq d e := by
  have h : Rep E F d v := by
    rcases h with h | ⟨_, _, _, _, h⟩
    · exact h
    · cases d <;> first | (cases fd; done) | exact h.elim
  have h' : Rep E F' e u := by
    rcases h' with h | ⟨_, _, _, _, h⟩
    · exact h
    · cases e <;> first | (cases fe; done) | exact h.elim
  cases d <;> (first | (cases fd; done) | skip) <;> cases e <;> (first | (cases fe; done) | skip) <;> cases h <;> cases h' <;> simp [eqV, deq, toPy, PyData.eqv]
theorem flats_rep {F : Hp} : ∀ {ds : List D} {vs : List V}, ds.all flat = true → RepL E F ds vs → vs.all flatV = true
  | [], vs, _, h => by cases h; rfl
  | d :: ds, vs, f, h => by
    obtain ⟨v, r, rfl, h1, h2⟩ := h
    rw [List.all_cons, Bool.and_eq_true] at f
    rw [List.all_cons, Bool.and_eq_true]
    exact ⟨flat_rep (H := F) f.1 (.inl h1), flats_rep f.2 h2⟩
theorem flats_in {F F' H' : Hp} {x : D} {u : V} (fx : flat x = true) (hx : RepO E F' H' x u) : ∀ {ds : List D} {vs : List V}, ds.all flat = true → RepL E F ds vs → inV u vs = ds.any fun y => deq y x
  | [], vs, _, h => by cases h; rfl
  | d :: ds, vs, f, h => by
    obtain ⟨v, r, rfl, h1, h2⟩ := h
    rw [List.all_cons, Bool.and_eq_true] at f
    show (eqV v u || inV u r) = (deq d x || ds.any fun y => deq y x)
    rw [flats_in fx hx f.2 h2, flat_eqV (H := F) f.1 fx (.inl h1) hx]
def strIn (x z : Str) : Bool := !(Builtin.Str.occurrences z x 0 z.length 1).isEmpty
def fIn (neg : Bool) : D → D → Rs D
  | .str x, .str z => .ok (.bl (neg ^^ strIn x z))
  | x, c => match items c with
    | some ds => if flat x && ds.all flat then .ok (.bl (neg ^^ ds.any fun y => deq y x)) else .no
    | none => .no
theorem xor_ite (neg b : Bool) : (if neg then !b else b) = (neg ^^ b) := by cases neg <;> simp
def rInA (K : PySem.W.Frag) : R2 := fun x y H Q => (∃ i j, x = .str i ∧ y = .str j ∧ Q (.bl (!(Builtin.Str.occurrences j i 0 j.length 1).isEmpty)) H) ∨ rIn K false x y H Q
def rNotInA (K : PySem.W.Frag) : R2 := fun x y H Q => (∃ i j, x = .str i ∧ y = .str j ∧ Q (.bl (!(!(Builtin.Str.occurrences j i 0 j.length 1).isEmpty))) H) ∨ rIn K true x y H Q
theorem op_inA : OpR Y (compareOp .In) (rInA Y.K) := op_in_str.or op_in_seq
theorem op_notInA : OpR Y (compareOp .NotIn) (rNotInA Y.K) := op_notIn_str.or op_notIn_seq
theorem ops_inG {neg : Bool} {r : R2} (hr : ∀ x y H Q, ((∃ i j, x = .str i ∧ y = .str j ∧ Q (.bl (neg ^^ strIn i j)) H) ∨ rIn E.K neg x y H Q) → r x y H Q) : OpS E r (fIn neg) := by
  intro W F H σ dx dy x y Q s h1 h2 post
  refine hr _ _ _ _ ?_
  unfold fIn at post
  split at post
  · exact .inl ⟨_, _, repO_str h1, repO_str h2, ev_ok s post rfl⟩
  · split at post
    · rename_i ds e
      by_cases c : (flat dx && ds.all flat) = true
      · rw [if_pos c] at post
        obtain ⟨c1, c2⟩ := Bool.and_eq_true_iff.mp c
        obtain ⟨a, vs, e1, q1, r1⟩ := repO_seq s e h2
        refine .inr ⟨a, vs, e1, q1, flat_rep c1 h1, flats_rep c2 r1, ?_⟩
        rw [xor_ite, flats_in c1 h1 c2 r1]
        exact ev_ok s post rfl
      · rw [if_neg c] at post; exact post.elim
    · exact post.elim
theorem ops_in : OpS E (rInA E.K) (fIn false) := ops_inG fun x y H Q h => by
  rcases h with ⟨i, j, h1, h2, h3⟩ | h
  · refine .inl ⟨i, j, h1, h2, ?_⟩
    simpa [strIn] using h3
  · exact .inr h
theorem ops_notIn : OpS E (rNotInA E.K) (fIn true) := ops_inG fun x y H Q h => by
  rcases h with ⟨i, j, h1, h2, h3⟩ | h
  · refine .inl ⟨i, j, h1, h2, ?_⟩
    simpa [strIn] using h3
  · exact .inr h
end DL
end

section
set_option linter.all false
set_option maxRecDepth 100000
set_option maxHeartbeats 4000000
namespace DL
open PySem PySem.Spec L2
variable {I : Type} {X : I → Cx} {Y : Cx} {E : Am} {W : WX}

/-! ## tests -/
def tru : D → Rs Bool
  | .non => .ok false | .bl b => .ok b | .int i => .ok (i != 0)
  | .str x => if x.length ≤ sizeLine then .ok ((x.length : Int) != 0) else .no
  | .tup ds => .ok (!ds.isEmpty) | .lst ds => .ok (!ds.isEmpty) | .kl ds => .ok (!ds.isEmpty)
  | .dk ks ds => .ok (!(ks.zip ds).isEmpty)
  | _ => .no
theorem isEmpty_len {α β : Type} {xs : List α} {ys : List β} (h : xs.length = ys.length) : xs.isEmpty = ys.isEmpty := by
  cases xs <;> cases ys <;> simp at h ⊢
theorem tru_rep {F H : Hp} (s : Same F H) {d : D} {v : V} {k : Bool} (e : tru d = .ok k) (h : RepO E F H d v) : TruV E.K v H k := by
  cases d with
  | non => cases repO_non h; cases e; rfl
  | bl b => cases repO_bl h; cases e; rfl
  | int i => cases repO_int h; cases e; rfl
  | str x =>
    cases repO_str h
    have e : (if x.length ≤ sizeLine then (Rs.ok ((x.length : Int) != 0) : Rs Bool) else .no) = .ok k := e
    by_cases c : x.length ≤ sizeLine
    · rw [if_pos c] at e; cases e; exact ⟨c, rfl⟩
    · rw [if_neg c] at e; cases e
  | tup ds =>
    cases e
    obtain ⟨a, vs, rfl, h2, h3⟩ := repO_tup h
    exact .inr (.inl ⟨vs, sqT_mono s h2, by rw [isEmpty_len h3.len]⟩)
  | lst ds =>
    cases e
    obtain ⟨a, vs, rfl, h2, h3⟩ := repO_lstH s h
    exact .inl ⟨vs, SqL.of h2, by rw [isEmpty_len h3.len]⟩
  | kl ds =>
    cases e
    obtain ⟨a, vs, rfl, h2, h3⟩ := repO_seq s (d := .kl ds) rfl h
    rcases h with ⟨a', vs', q1, q2, q3⟩ | ⟨_, _, _, _, q⟩
    · cases q1
      exact .inl ⟨vs', sqL_mono s q2, by rw [isEmpty_len q3.len]⟩
    · exact q.elim
  | dk ks ds =>
    cases e
    have key : ∃ a vs, v = .ref a ∧ H a = some (.dK (ks.zip vs)) ∧ RepL E F ds vs := by
      rcases h with ⟨a, vs, q1, q2, q3, q4⟩ | ⟨l, ho, q1, q2, vs, q3, q4, q5⟩
      · exact ⟨a, vs, q1, s _ _ q2, q4⟩
      · exact ⟨l, vs, q1, by rw [q2, q3], q5⟩
    obtain ⟨a, vs, rfl, h2, h3⟩ := key
    refine .inr (.inr ⟨_, h2, ?_⟩)
    rw [isEmpty_len (show (ks.zip ds).length = (ks.zip vs).length by rw [List.length_zip, List.length_zip, h3.len])]
  | ins _ _ _ => cases e
  | dt _ _ => cases e
theorem xt_val {a : Expr} {p : Ev → Rs D} (h : XL X E W a p) {k : Nat} (c : Ctx X E W k) (he : ∀ i whole, isTrue a (X i).env whole = (do let v ← whole; standAt a.pos; holding [v] (truthy v)) := by intro _ _; rfl) : XT X E W a (fun ρ => (p ρ).bind tru) := by
  obtain ⟨t, h1, h2⟩ := h
  refine ⟨fun σ H Q => t σ H fun x H' => ∃ k, TruV E.K x H' k ∧ Q k H', fun i => by rw [← c.K i]; exact pt_truth (h1 i) (he i), fun B F H σ ρ Q s sb r post => ?_⟩
  show t σ H _
  refine Evals.seq h2 s sb r post fun F1 H1 d v e1 x1 sb1 r1 g1 post1 => ?_
  cases e : tru d with
  | ok k => rw [e] at post1; exact ⟨k, tru_rep x1.fh e g1, ev_ok x1.fh post1 rfl⟩
  | err c z => cases d <;> simp [tru] at e <;> split at e <;> cases e
  | no => rw [e] at post1; exact post1.elim
def pNot (p : Ev → Rs Bool) : Ev → Rs Bool := fun ρ => (p ρ).bind fun b => .ok (!b)
def pAnd (p q : Ev → Rs Bool) : Ev → Rs Bool := fun ρ => (p ρ).bind fun b => if b = true then q ρ else .ok false
def pOr (p q : Ev → Rs Bool) : Ev → Rs Bool := fun ρ => (p ρ).bind fun b => if b = true then .ok true else q ρ
theorem xt_not {a : Expr} {pos : Pos} {p : Ev → Rs Bool} (h : XT X E W a p) : XT X E W (.UnaryOp .Not a pos) (pNot p) := by
  obtain ⟨t, h1, h2⟩ := h
  refine ⟨_, fun i => pt_not (h1 i), fun B F H σ ρ Q s sb r post => ?_⟩
  show t σ H _
  refine Evals.seq h2 s sb r post fun F1 H1 b b' e1 x1 sb1 r1 g1 post1 => ?_
  cases g1
  exact ev_ok x1.fh post1 rfl
theorem xw_pt {a : Expr} {p : Ev → Rs Bool} (h : XW X E W a p) : XT X E W a p := by
  obtain ⟨t, h1, h2⟩ := h
  exact ⟨t, fun i => (h1 i).pt, h2⟩
theorem xw_and1 {a : Expr} {pos : Pos} {p : Ev → Rs Bool} (h : XT X E W a p) : XW X E W (.BoolOp .And [a] pos) p := by
  obtain ⟨t, h1, h2⟩ := h
  exact ⟨t, fun i => pw_and1 (h1 i), h2⟩
theorem xw_or1 {a : Expr} {pos : Pos} {p : Ev → Rs Bool} (h : XT X E W a p) : XW X E W (.BoolOp .Or [a] pos) p := by
  obtain ⟨t, h1, h2⟩ := h
  exact ⟨t, fun i => pw_or1 (h1 i), h2⟩
theorem xw_and {a b : Expr} {rest : List Expr} {pos : Pos} {p q : Ev → Rs Bool} (h : XT X E W a p) (h' : XW X E W (.BoolOp .And (b :: rest) pos) q) : XW X E W (.BoolOp .And (a :: b :: rest) pos) (pAnd p q) := by
  obtain ⟨t, h1, h2⟩ := h
  obtain ⟨u, g1, g2⟩ := h'
  refine ⟨_, fun i => pw_and (h1 i) (g1 i), fun B F H σ ρ Q s sb r post => ?_⟩
  show t σ H _
  refine Evals.seq h2 s sb r post fun F1 H1 b b' e1 x1 sb1 r1 gg post1 => ?_
  cases gg
  cases b with
  | true => exact g2 B F1 H1 σ ρ Q x1.fh sb1 r1 (post1.imp fun _ _ _ _ _ g => g)
  | false => exact ev_ok x1.fh post1 rfl
theorem xw_or {a b : Expr} {rest : List Expr} {pos : Pos} {p q : Ev → Rs Bool} (h : XT X E W a p) (h' : XW X E W (.BoolOp .Or (b :: rest) pos) q) : XW X E W (.BoolOp .Or (a :: b :: rest) pos) (pOr p q) := by
  obtain ⟨t, h1, h2⟩ := h
  obtain ⟨u, g1, g2⟩ := h'
  refine ⟨_, fun i => pw_or (h1 i) (g1 i), fun B F H σ ρ Q s sb r post => ?_⟩
  show t σ H _
  refine Evals.seq h2 s sb r post fun F1 H1 b b' e1 x1 sb1 r1 gg post1 => ?_
  cases gg
  cases b with
  | true => exact ev_ok x1.fh post1 rfl
  | false => exact g2 B F1 H1 σ ρ Q x1.fh sb1 r1 (post1.imp fun _ _ _ _ _ g => g)
/-- and, or, not as values of bools -/
def pAndV (p q : Ev → Rs D) : Ev → Rs D := fun ρ => (p ρ).bind fun d => match d with | .bl true => q ρ | .bl false => .ok (.bl false) | _ => .no
def pOrV (p q : Ev → Rs D) : Ev → Rs D := fun ρ => (p ρ).bind fun d => match d with | .bl true => .ok (.bl true) | .bl false => q ρ | _ => .no
def pNotV (p : Ev → Rs D) : Ev → Rs D := fun ρ => (p ρ).bind fun d => match d with | .bl b => .ok (.bl (!b)) | _ => .no
theorem xe_one {op : BoolOp} {a : Expr} {pos : Pos} {p : Ev → Rs D} (h : XE X E W a p) : XE X E W (.BoolOp op [a] pos) p := by
  obtain ⟨t, h1, h2⟩ := h
  exact ⟨t, fun i => pe_one (h1 i), h2⟩
theorem xe_and {a b : Expr} {rest : List Expr} {pos : Pos} {p q : Ev → Rs D} (h : XE X E W a p) (h' : XE X E W (.BoolOp .And (b :: rest) pos) q) : XE X E W (.BoolOp .And (a :: b :: rest) pos) (pAndV p q) := by
  obtain ⟨t, h1, h2⟩ := h
  obtain ⟨u, g1, g2⟩ := h'
  refine ⟨_, fun i => pe_and (h1 i) (g1 i), fun B F H σ ρ Q s sb r post => ?_⟩
  show t σ H _
  refine Evals.seq h2 s sb r post fun F1 H1 d v e1 x1 sb1 r1 gg post1 => ?_
  cases d <;> first | exact post1.elim | skip
  rename_i b
  obtain rfl : v = .bl b := gg
  refine ⟨b, rfl, ?_⟩
  cases b with
  | true => exact g2 B F1 H1 σ ρ Q x1.fh sb1 r1 post1
  | false => exact ev_ok x1.fh post1 rfl
theorem xe_or {a b : Expr} {rest : List Expr} {pos : Pos} {p q : Ev → Rs D} (h : XE X E W a p) (h' : XE X E W (.BoolOp .Or (b :: rest) pos) q) : XE X E W (.BoolOp .Or (a :: b :: rest) pos) (pOrV p q) := by
  obtain ⟨t, h1, h2⟩ := h
  obtain ⟨u, g1, g2⟩ := h'
  refine ⟨_, fun i => pe_or (h1 i) (g1 i), fun B F H σ ρ Q s sb r post => ?_⟩
  show t σ H _
  refine Evals.seq h2 s sb r post fun F1 H1 d v e1 x1 sb1 r1 gg post1 => ?_
  cases d <;> first | exact post1.elim | skip
  rename_i b
  obtain rfl : v = .bl b := gg
  refine ⟨b, rfl, ?_⟩
  cases b with
  | true => exact ev_ok x1.fh post1 rfl
  | false => exact g2 B F1 H1 σ ρ Q x1.fh sb1 r1 post1
theorem xe_not {a : Expr} {pos : Pos} {p : Ev → Rs D} (h : XE X E W a p) : XE X E W (.UnaryOp .Not a pos) (pNotV p) := by
  obtain ⟨t, h1, h2⟩ := h
  refine ⟨_, fun i => pe_not (h1 i), fun B F H σ ρ Q s sb r post => ?_⟩
  show t σ H _
  refine Evals.seq h2 s sb r post fun F1 H1 d v e1 x1 sb1 r1 gg post1 => ?_
  cases d <;> first | exact post1.elim | skip
  rename_i b
  obtain rfl : v = .bl b := gg
  exact ⟨b, rfl, ev_ok x1.fh post1 rfl⟩
def pIf {α : Type} (c : Ev → Rs Bool) (p q : Ev → Rs α) : Ev → Rs α := fun ρ => (c ρ).bind fun b => if b = true then p ρ else q ρ
theorem evals_if {G : Hp → Hp → Hp → D → V → Prop} (hG : ∀ {F H F1 H1 F' H' d v}, Ext F H F1 H1 → G H1 F' H' d v → G H F' H' d v) {tc : TT} {ta tb : TE} {c : Ev → Rs Bool} {p q : Ev → Rs D} (hc : Evals E W GB tc c) (ha : Evals E W G ta p) (hb : Evals E W G tb q) : Evals E W G (tIf tc ta tb) (pIf c p q) := by
  intro B F H σ ρ Q s sb r post
  show tc σ H _
  refine Evals.seq hc s sb r post fun F1 H1 b b' e1 x1 sb1 r1 gg post1 => ?_
  cases gg
  cases b with
  | true => exact ha B F1 H1 σ ρ Q x1.fh sb1 r1 (Post.imp post1 fun _ _ _ _ _ g => hG x1 g)
  | false => exact hb B F1 H1 σ ρ Q x1.fh sb1 r1 (Post.imp post1 fun _ _ _ _ _ g => hG x1 g)
theorem xe_if {c a b : Expr} {pos : Pos} {pc : Ev → Rs Bool} {p q : Ev → Rs D} (hc : XT X E W c pc) (ha : XE X E W a p) (hb : XE X E W b q) : XE X E W (.IfExp c a b pos) (pIf pc p q) := by
  obtain ⟨tc, c1, c2⟩ := hc
  obtain ⟨ta, a1, a2⟩ := ha
  obtain ⟨tb, b1, b2⟩ := hb
  exact ⟨_, fun i => pe_ifExp (c1 i) (a1 i) (b1 i), evals_if (fun _ g => g) c2 a2 b2⟩

/-! ## unary minus -/
def fNeg : D → Rs D | .int i => .ok (.int (-i)) | _ => .no
def pUn (f : D → Rs D) (p : Ev → Rs D) : Ev → Rs D := fun ρ => (p ρ).bind f
theorem xe_neg {a : Expr} {pos : Pos} {p : Ev → Rs D} (h : XL X E W a p) : XE X E W (.UnaryOp .USub a pos) (pUn fNeg p) := by
  obtain ⟨t, h1, h2⟩ := h
  refine ⟨_, fun i => pe_un un_neg (h1 i), fun B F H σ ρ Q s sb r post => ?_⟩
  show t σ H _
  refine Evals.seq h2 s sb r post fun F1 H1 d v e1 x1 sb1 r1 gg post1 => ?_
  cases d <;> first | exact post1.elim | skip
  exact ⟨_, repO_int gg, ev_ok x1.fh post1 rfl⟩

/-! ## argument lists -/
def pNil : Ev → Rs (List D) := fun _ => .ok []
def pCons (p : Ev → Rs D) (q : Ev → Rs (List D)) : Ev → Rs (List D) := fun ρ => (p ρ).bind fun d => (q ρ).bind fun ds => .ok (d :: ds)
theorem xa_nil : XA X E W [] pNil := ⟨_, fun _ => pa_nil, fun B F H σ ρ Q s sb r post => ev_ok s post rfl⟩
theorem xal_nil : XAL X E W [] pNil := ⟨_, fun _ => pa_nil, fun B F H σ ρ Q s sb r post => ev_ok s post rfl⟩
theorem xa_cons {e : Expr} {es : List Expr} {p : Ev → Rs D} {q : Ev → Rs (List D)} (h : XE X E W e p) (h' : XA X E W es q) (hs : ∀ i, starEach (e :: es) (X i).env = (false, eval e (X i).env) :: starEach es (X i).env := by intro _; rfl) : XA X E W (e :: es) (pCons p q) := by
  obtain ⟨t, h1, h2⟩ := h
  obtain ⟨u, g1, g2⟩ := h'
  refine ⟨_, fun i => pa_cons (h1 i) (g1 i) (hs i), fun B F H σ ρ Q s sb r post => ?_⟩
  show t σ H _
  refine Evals.seq h2 s sb r post fun F1 H1 d v e1 x1 sb1 r1 gg post1 => ?_
  show u σ H1 _
  refine Evals.seq g2 x1.fh sb1 r1 post1 fun F2 H2 ds vs e2 x2 sb2 r2 g2 post2 => ?_
  exact ev_ok x2.fh post2 (.cons (Rep.mono x2.f _ _ gg) g2)
theorem xal_cons {e : Expr} {es : List Expr} {p : Ev → Rs D} {q : Ev → Rs (List D)} (h : XL X E W e p) (h' : XAL X E W es q) (hs : ∀ i, starEach (e :: es) (X i).env = (false, eval e (X i).env) :: starEach es (X i).env := by intro _; rfl) : XAL X E W (e :: es) (pCons p q) := by
  obtain ⟨t, h1, h2⟩ := h
  obtain ⟨u, g1, g2⟩ := h'
  refine ⟨_, fun i => pa_cons (h1 i) (g1 i) (hs i), fun B F H σ ρ Q s sb r post => ?_⟩
  show t σ H _
  refine Evals.seq h2 s sb r post fun F1 H1 d v e1 x1 sb1 r1 gg post1 => ?_
  show u σ H1 _
  refine Evals.seq g2 x1.fh sb1 r1 post1 fun F2 H2 ds vs e2 x2 sb2 r2 g2 post2 => ?_
  exact ev_ok x2.fh post2 ⟨_, _, rfl, gg.mono x2, g2⟩
/-! ## displays -/
def pTup (q : Ev → Rs (List D)) : Ev → Rs D := fun ρ => (q ρ).bind fun ds => if ds.length ≤ sizeLine then .ok (.tup ds) else .no
def pLst (q : Ev → Rs (List D)) : Ev → Rs D := fun ρ => (q ρ).bind fun ds => if ds.length ≤ sizeLine then .ok (.lst ds) else .no
theorem xe_tup {es : List Expr} {k : Nat} {pos : Pos} {q : Ev → Rs (List D)} (h : XA X E W es q) : XE X E W (.Tuple es k pos) (pTup q) := by
  obtain ⟨t, h1, h2⟩ := h
  refine ⟨_, fun i => pe_tup (h1 i), fun B F H σ ρ Q s sb r post => ?_⟩
  show t σ H _
  refine Evals.seq h2 s sb r post fun F1 H1 ds vs e1 x1 sb1 r1 gg post1 => ?_
  by_cases c : ds.length ≤ sizeLine
  · rw [if_pos c] at post1
    exact ⟨by rw [← gg.len]; exact c, fun p hp => post1 _ _ _ (Ext.new x1.fh hp) (gs_newT x1.fh hp gg)⟩
  · rw [if_neg c] at post1; exact post1.elim
theorem gn_newL {H0 F H : Hp} {p : Addr} {ds : List D} {vs : List V} (s : Same F H) (h0 : Same H0 H) (hp : H p = none) (h : RepL E F ds vs) : GN E H0 F (upd H p (.lst vs)) (.lst ds) (.ref p) :=
  ⟨p, _, rfl, h0.free hp, s.free hp, upd_same, vs, rfl, h⟩
theorem xn_lst {es : List Expr} {pos : Pos} {q : Ev → Rs (List D)} (h : XA X E W es q) : XN X E W (.List es pos) (pLst q) := by
  obtain ⟨t, h1, h2⟩ := h
  refine ⟨_, fun i => pe_lst (h1 i), fun B F H σ ρ Q s sb r post => ?_⟩
  show t σ H _
  have post' := post
  refine Evals.seq (G2 := fun F' H' a b => GN E H F' H' a b) h2 s sb r post fun F1 H1 ds vs e1 x1 sb1 r1 gg post1 => ?_
  by_cases c : ds.length ≤ sizeLine
  · rw [if_pos c] at post1
    exact ⟨by rw [← gg.len]; exact c, fun p hp => post1 _ _ _ (Ext.newH x1.fh hp) (gn_newL x1.fh x1.h hp gg)⟩
  · rw [if_neg c] at post1; exact post1.elim

/-! ## built-ins by their names -/
/-- r does f to loose data; N: what it hands out -/
def CalS (E : Am) (G : Hp → Hp → Hp → D → V → Prop) (r : List V → Hp → VK → Prop) (f : List D → Rs D) : Prop :=
  ∀ (W : WX) (F H : Hp) (σ : L2.St) (ds : List D) (vs : List V) (Q : VK), Same F H → RepOL E F H ds vs → Post E W σ F H (G H) Q (f ds) → r vs H Q
def pCall (f : List D → Rs D) (q : Ev → Rs (List D)) : Ev → Rs D := fun ρ => (q ρ).bind f
theorem evals_cb {G : Hp → Hp → Hp → D → V → Prop} (hG : ∀ {F H F1 H1 F' H' d v}, Ext F H F1 H1 → G H1 F' H' d v → G H F' H' d v) {r : List V → Hp → VK → Prop} {f : List D → Rs D} {t : TA} {q : Ev → Rs (List D)} (hr : CalS E G r f) (h : Evals E W (GAL E) t q) : Evals E W G (tCB r t) (pCall f q) := by
  intro B F H σ ρ Q s sb r0 post
  show t σ H _
  refine Evals.seq h s sb r0 post fun F1 H1 ds vs e1 x1 sb1 r1 gg post1 => ?_
  exact hr W F1 H1 σ ds vs Q x1.fh gg (Post.imp post1 fun _ _ _ _ _ g => hG x1 g)
theorem gn_back {F H F1 H1 F' H' : Hp} {d : D} {v : V} (x : Ext F H F1 H1) (g : GN E H1 F' H' d v) : GN E H F' H' d v := by
  obtain ⟨l, ho, h1, h2, h3, h4, h5⟩ := g
  exact ⟨l, ho, h1, x.h.free h2, h3, h4, h5⟩
theorem xe_callB {x : Str} {id : String} {p pos : Pos} {e : Expr} {es : List Expr} {r : List V → Hp → VK → Prop} {f : List D → Rs D} {q : Ev → Rs (List D)} (hc : ∀ i, CallR (X i) (.builtin id) r) (hr : CalS E (GS E) r f) (hg : ∀ i, Gl (X i) x) (hm : ∀ i, (X i).mg x = none) (hv : bootBuiltins x = some (.builtin id)) (ha : XAL X E W (e :: es) q)
    (hn : x ≠ "__name__" := by decide) (hdb : (x == ("__debug__" : Str)) = false := by decide) (he : ∀ i, starEach (e :: es) (X i).env = (false, eval e (X i).env) :: starEach es (X i).env := by intro _; rfl) (hpl : ∀ i, (backTo pos (starEach es (X i).env)).any (·.1) = false := by intro _; rfl) : XE X E W (.Call (.Name x p) (e :: es) [] pos) (pCall f q) := by
  obtain ⟨t, a1, a2⟩ := ha
  exact ⟨_, fun i => pe_callB (hc i) (hg i) (hm i) hv (a1 i) hn hdb (he i) (hpl i), evals_cb (fun _ g => g) hr a2⟩
theorem xn_callB {x : Str} {id : String} {p pos : Pos} {e : Expr} {es : List Expr} {r : List V → Hp → VK → Prop} {f : List D → Rs D} {q : Ev → Rs (List D)} (hc : ∀ i, CallR (X i) (.builtin id) r) (hr : CalS E (GN E) r f) (hg : ∀ i, Gl (X i) x) (hm : ∀ i, (X i).mg x = none) (hv : bootBuiltins x = some (.builtin id)) (ha : XAL X E W (e :: es) q)
    (hn : x ≠ "__name__" := by decide) (hdb : (x == ("__debug__" : Str)) = false := by decide) (he : ∀ i, starEach (e :: es) (X i).env = (false, eval e (X i).env) :: starEach es (X i).env := by intro _; rfl) (hpl : ∀ i, (backTo pos (starEach es (X i).env)).any (·.1) = false := by intro _; rfl) : XN X E W (.Call (.Name x p) (e :: es) [] pos) (pCall f q) := by
  obtain ⟨t, a1, a2⟩ := ha
  exact ⟨_, fun i => pe_callB (hc i) (hg i) (hm i) hv (a1 i) hn hdb (he i) (hpl i), evals_cb (G := GN E) (fun x g => gn_back x g) hr a2⟩
theorem xe_callTy {x : Str} {T : String} {p pos : Pos} {e : Expr} {es : List Expr} {r : List V → Hp → VK → Prop} {f : List D → Rs D} {q : Ev → Rs (List D)} (hc : ∀ i, CallR (X i) (.type T) r) (hr : CalS E (GS E) r f) (hg : ∀ i, Gl (X i) x) (hm : ∀ i, (X i).mg x = none) (hv : bootBuiltins x = some (.type T)) (ha : XAL X E W (e :: es) q)
    (hn : x ≠ "__name__" := by decide) (hdb : (x == ("__debug__" : Str)) = false := by decide) (he : ∀ i, starEach (e :: es) (X i).env = (false, eval e (X i).env) :: starEach es (X i).env := by intro _; rfl) (hpl : ∀ i, (backTo pos (starEach es (X i).env)).any (·.1) = false := by intro _; rfl) : XE X E W (.Call (.Name x p) (e :: es) [] pos) (pCall f q) := by
  obtain ⟨t, a1, a2⟩ := ha
  exact ⟨_, fun i => pe_callTy (hc i) (hg i) (hm i) hv (a1 i) hn hdb (he i) (hpl i), evals_cb (fun _ g => g) hr a2⟩
theorem xn_callTy {x : Str} {T : String} {p pos : Pos} {e : Expr} {es : List Expr} {r : List V → Hp → VK → Prop} {f : List D → Rs D} {q : Ev → Rs (List D)} (hc : ∀ i, CallR (X i) (.type T) r) (hr : CalS E (GN E) r f) (hg : ∀ i, Gl (X i) x) (hm : ∀ i, (X i).mg x = none) (hv : bootBuiltins x = some (.type T)) (ha : XAL X E W (e :: es) q)
    (hn : x ≠ "__name__" := by decide) (hdb : (x == ("__debug__" : Str)) = false := by decide) (he : ∀ i, starEach (e :: es) (X i).env = (false, eval e (X i).env) :: starEach es (X i).env := by intro _; rfl) (hpl : ∀ i, (backTo pos (starEach es (X i).env)).any (·.1) = false := by intro _; rfl) : XN X E W (.Call (.Name x p) (e :: es) [] pos) (pCall f q) := by
  obtain ⟨t, a1, a2⟩ := ha
  exact ⟨_, fun i => pe_callTy (hc i) (hg i) (hm i) hv (a1 i) hn hdb (he i) (hpl i), evals_cb (G := GN E) (fun x g => gn_back x g) hr a2⟩
theorem xe_callBfun {x : Str} {id : String} {p pos : Pos} {e : Expr} {es : List Expr} {r : List V → Hp → VK → Prop} {f : List D → Rs D} {q : Ev → Rs (List D)} (hc : ∀ i, CallR (X i) (.builtin id) r) (hr : CalS E (GS E) r f) (hg : ∀ i, Gl (X i) x) (hm : ∀ i, (X i).mg x = some (.builtin id)) (ha : XAL X E W (e :: es) q)
    (hdb : (x == ("__debug__" : Str)) = false := by decide) (he : ∀ i, starEach (e :: es) (X i).env = (false, eval e (X i).env) :: starEach es (X i).env := by intro _; rfl) (hpl : ∀ i, (backTo pos (starEach es (X i).env)).any (·.1) = false := by intro _; rfl) : XE X E W (.Call (.Name x p) (e :: es) [] pos) (pCall f q) := by
  obtain ⟨t, a1, a2⟩ := ha
  exact ⟨_, fun i => pe_callBfun (hc i) (hg i) (hm i) (a1 i) hdb (he i) (hpl i), evals_cb (fun _ g => g) hr a2⟩
theorem rol1 {F H : Hp} {d : D} {vs : List V} (h : RepOL E F H [d] vs) : ∃ v, vs = [v] ∧ RepO E F H d v := by
  obtain ⟨v, r, rfl, h1, h2⟩ := h
  cases h2
  exact ⟨v, rfl, h1⟩
theorem rol2 {F H : Hp} {d e : D} {vs : List V} (h : RepOL E F H [d, e] vs) : ∃ v u, vs = [v, u] ∧ RepO E F H d v ∧ RepO E F H e u := by
  obtain ⟨v, r, rfl, h1, h2⟩ := h
  obtain ⟨u, rfl, h3⟩ := rol1 h2
  exact ⟨v, u, rfl, h1, h3⟩
def fLen : List D → Rs D
  | [.str x] => if x.length ≤ sizeLine then .ok (.int x.length) else .no
  | [d] => match items d with | some ds => .ok (.int ds.length) | none => .no
  | _ => .no
theorem call_lenA : CallR Y (.builtin "len") (fun xs H Q => (∃ z, xs = [.str z] ∧ z.length ≤ sizeLine ∧ Q (.int z.length) H) ∨ (∃ p ys, xs = [.ref p] ∧ (SqL Y.K H p ys ∨ SqT Y.K H p ys) ∧ Q (.int ys.length) H)) := call_len_str.or call_len_seq
theorem cals_len : CalS E (GS E) (fun xs H Q => (∃ z, xs = [.str z] ∧ z.length ≤ sizeLine ∧ Q (.int z.length) H) ∨ (∃ p ys, xs = [.ref p] ∧ (SqL E.K H p ys ∨ SqT E.K H p ys) ∧ Q (.int ys.length) H)) fLen := by
  intro W F H σ ds vs Q s h post
  unfold fLen at post
  split at post
  · rename_i x
    obtain ⟨v, rfl, h1⟩ := rol1 h
    by_cases c : x.length ≤ sizeLine
    · rw [if_pos c] at post
      cases repO_str h1
      exact .inl ⟨x, rfl, c, ev_ok s post rfl⟩
    · rw [if_neg c] at post; exact post.elim
  · split at post
    · rename_i es e
      obtain ⟨v, rfl, h1⟩ := rol1 h
      obtain ⟨a, vs, rfl, q1, q2⟩ := repO_seq s e h1
      refine .inr ⟨a, vs, rfl, q1, ?_⟩
      refine ev_ok s post ?_
      rw [q2.len]; rfl
    · exact post.elim
  · exact post.elim
def fAbs : List D → Rs D | [.int i] => .ok (.int (if i < 0 then -i else i)) | _ => .no
theorem cals_abs : CalS E (GS E) (fun xs H Q => ∃ i, xs = [.int i] ∧ Q (.int (if i < 0 then -i else i)) H) fAbs := by
  intro W F H σ ds vs Q s h post
  unfold fAbs at post
  split at post
  · obtain ⟨v, rfl, h1⟩ := rol1 h
    cases repO_int h1
    exact ⟨_, rfl, ev_ok s post rfl⟩
  · exact post.elim
def fInt : List D → Rs D | [.int i] => .ok (.int i) | [.bl k] => .ok (.int (if k then 1 else 0)) | _ => .no
theorem cals_int : CalS E (GS E) (fun xs H Q => (∃ i, xs = [.int i] ∧ Q (.int i) H) ∨ ∃ k, xs = [.bl k] ∧ Q (.int (if k then 1 else 0)) H) fInt := by
  intro W F H σ ds vs Q s h post
  unfold fInt at post
  split at post
  · obtain ⟨v, rfl, h1⟩ := rol1 h
    cases repO_int h1
    exact .inl ⟨_, rfl, ev_ok s post rfl⟩
  · obtain ⟨v, rfl, h1⟩ := rol1 h
    cases repO_bl h1
    exact .inr ⟨_, rfl, ev_ok s post rfl⟩
  · exact post.elim
def fMax2 : List D → Rs D | [.int i, .int j] => .ok (.int (if j > i then j else i)) | _ => .no
def fMin2 : List D → Rs D | [.int i, .int j] => .ok (.int (if j < i then j else i)) | _ => .no
theorem cals_max2 : CalS E (GS E) (fun xs H Q => ∃ i j, xs = [.int i, .int j] ∧ Q (.int (if j > i then j else i)) H) fMax2 := by
  intro W F H σ ds vs Q s h post
  unfold fMax2 at post
  split at post
  · obtain ⟨v, u, rfl, h1, h2⟩ := rol2 h
    cases repO_int h1
    cases repO_int h2
    exact ⟨_, _, rfl, ev_ok s post rfl⟩
  · exact post.elim
theorem cals_min2 : CalS E (GS E) (fun xs H Q => ∃ i j, xs = [.int i, .int j] ∧ Q (.int (if j < i then j else i)) H) fMin2 := by
  intro W F H σ ds vs Q s h post
  unfold fMin2 at post
  split at post
  · obtain ⟨v, u, rfl, h1, h2⟩ := rol2 h
    cases repO_int h1
    cases repO_int h2
    exact ⟨_, _, rfl, ev_ok s post rfl⟩
  · exact post.elim
def fGcd : List D → Rs D | [.int i, .int j] => .ok (.int ((Nat.gcd i.natAbs j.natAbs : Nat) : Int)) | _ => .no
theorem cals_gcd : CalS E (GS E) rGcd fGcd := by
  intro W F H σ ds vs Q s h post
  unfold fGcd at post
  split at post
  · obtain ⟨v, u, rfl, h1, h2⟩ := rol2 h
    cases repO_int h1
    cases repO_int h2
    exact ⟨_, _, rfl, ev_ok s post rfl⟩
  · exact post.elim
/-! sums, all, any -/
def intsOf : List D → Option (List Int)
  | [] => some []
  | .int i :: r => (intsOf r).map (i :: ·)
  | _ => none
def blsOf : List D → Option (List Bool)
  | [] => some []
  | .bl i :: r => (blsOf r).map (i :: ·)
  | _ => none
theorem repL_ints {F : Hp} : ∀ {ds : List D} {ns : List Int} {vs : List V}, intsOf ds = some ns → RepL E F ds vs → vs = ns.map V.int
  | [], ns, vs, e, h => by cases e; cases h; rfl
  | d :: ds, ns, vs, e, h => by
    cases d <;> simp only [intsOf] at e <;> first | contradiction | skip
    rename_i i
    obtain ⟨ms, e1, e2⟩ := Option.map_eq_some_iff.mp e
    obtain ⟨v, r, rfl, h1, h2⟩ := h
    cases h1
    subst e2
    rw [repL_ints e1 h2]; rfl
theorem repL_bls {F : Hp} : ∀ {ds : List D} {ns : List Bool} {vs : List V}, blsOf ds = some ns → RepL E F ds vs → vs = ns.map V.bl
  | [], ns, vs, e, h => by cases e; cases h; rfl
  | d :: ds, ns, vs, e, h => by
    cases d <;> simp only [blsOf] at e <;> first | contradiction | skip
    rename_i i
    obtain ⟨ms, e1, e2⟩ := Option.map_eq_some_iff.mp e
    obtain ⟨v, r, rfl, h1, h2⟩ := h
    cases h1
    subst e2
    rw [repL_bls e1 h2]; rfl
def itemsL : D → Option (List D) | .lst ds => some ds | .kl ds => some ds | _ => none
theorem itemsL_items {d : D} {ds : List D} (e : itemsL d = some ds) : items d = some ds ∧ isTup d = false := by
  cases d <;> simp [itemsL] at e <;> subst e <;> exact ⟨rfl, rfl⟩
theorem repO_list {F H : Hp} (s : Same F H) {d : D} {ds : List D} {v : V} (e : itemsL d = some ds) (h : RepO E F H d v) : ∃ a vs, v = .ref a ∧ SqL E.K H a vs ∧ RepL E F ds vs := by
  obtain ⟨e1, e2⟩ := itemsL_items e
  obtain ⟨a, vs, h1, h2, h3⟩ := repO_items s e1 h
  rw [e2] at h2
  exact ⟨a, vs, h1, h2, h3⟩
def fSum : List D → Rs D
  | [d] => (match itemsL d with | some ds => (match intsOf ds with | some ns => .ok (.int ns.sum) | none => .no) | none => .no)
  | _ => .no
def fAny : List D → Rs D
  | [d] => (match itemsL d with | some ds => (match blsOf ds with | some ns => .ok (.bl (ns.any id)) | none => .no) | none => .no)
  | _ => .no
def fAll : List D → Rs D
  | [d] => (match itemsL d with | some ds => (match blsOf ds with | some ns => .ok (.bl (ns.all id)) | none => .no) | none => .no)
  | _ => .no
theorem cals_sum : CalS E (GS E) (rSum E.K) fSum := by
  intro W F H σ ds vs Q s h post
  unfold fSum at post
  split at post
  · split at post
    · split at post
      · rename_i es e _ ns en
        obtain ⟨v, rfl, h1⟩ := rol1 h
        obtain ⟨a, us, rfl, q1, q2⟩ := repO_list s e h1
        rw [repL_ints en q2] at q1
        exact ⟨a, ns, rfl, q1, ev_ok s post rfl⟩
      · exact post.elim
    · exact post.elim
  · exact post.elim
theorem cals_any : CalS E (GS E) (rAny E.K) fAny := by
  intro W F H σ ds vs Q s h post
  unfold fAny at post
  split at post
  · split at post
    · split at post
      · rename_i es e _ ns en
        obtain ⟨v, rfl, h1⟩ := rol1 h
        obtain ⟨a, us, rfl, q1, q2⟩ := repO_list s e h1
        rw [repL_bls en q2] at q1
        exact ⟨a, ns, rfl, q1, ev_ok s post rfl⟩
      · exact post.elim
    · exact post.elim
  · exact post.elim
theorem cals_all : CalS E (GS E) (rAll E.K) fAll := by
  intro W F H σ ds vs Q s h post
  unfold fAll at post
  split at post
  · split at post
    · split at post
      · rename_i es e _ ns en
        obtain ⟨v, rfl, h1⟩ := rol1 h
        obtain ⟨a, us, rfl, q1, q2⟩ := repO_list s e h1
        rw [repL_bls en q2] at q1
        exact ⟨a, ns, rfl, q1, ev_ok s post rfl⟩
      · exact post.elim
    · exact post.elim
  · exact post.elim
/-! list(..), tuple(..) -/
def fList : List D → Rs D
  | [d] => (match items d with | some ds => .ok (.lst ds) | none => .no)
  | _ => .no
theorem cals_list : CalS E (GN E) (fun xs H Q => ∃ p ys, xs = [.ref p] ∧ (SqL E.K H p ys ∨ SqT E.K H p ys) ∧ ∀ l, H l = none → Q (.ref l) (upd H l (.lst ys))) fList := by
  intro W F H σ ds vs Q s h post
  unfold fList at post
  split at post
  · split at post
    · rename_i es e
      obtain ⟨v, rfl, h1⟩ := rol1 h
      obtain ⟨a, us, rfl, q1, q2⟩ := repO_seq s e h1
      exact ⟨a, us, rfl, q1, fun l hl => post _ _ _ (Ext.newH s hl) (gn_newL s (Same.refl H) hl q2)⟩
    · exact post.elim
  · exact post.elim
def fTuple : List D → Rs D
  | [d] => (match items d with | some ds => .ok (.tup ds) | none => .no)
  | _ => .no
theorem cals_tuple : CalS E (GS E) (fun xs H Q => ∃ p ys, xs = [.ref p] ∧ ((SqL E.K H p ys ∧ ∀ l, H l = none → Q (.ref l) (upd H l (.tup ys))) ∨ (SqT E.K H p ys ∧ Q (.ref p) H))) fTuple := by
  intro W F H σ ds vs Q s h post
  unfold fTuple at post
  split at post
  · rename_i d
    split at post
    · rename_i es e
      obtain ⟨v, rfl, h1⟩ := rol1 h
      by_cases t : isTup d = true
      · cases d <;> simp [isTup] at t
        cases e
        obtain ⟨a, us, rfl, q1, q2⟩ := repO_tup h1
        exact ⟨a, us, rfl, .inr ⟨sqT_mono s q1, ev_ok s post ⟨a, us, rfl, q1, q2⟩⟩⟩
      · obtain ⟨a, us, rfl, q1, q2⟩ := repO_items s e h1
        rw [if_neg t] at q1
        exact ⟨a, us, rfl, .inl ⟨q1, fun l hl => post _ _ _ (Ext.new s hl) (gs_newT s hl q2)⟩⟩
    · exact post.elim
  · exact post.elim
end DL
end

section
set_option linter.all false
set_option maxRecDepth 100000
set_option maxHeartbeats 4000000
namespace DL
open PySem PySem.Spec L2
variable {I : Type} {X : I → Cx} {Y : Cx} {E : Am} {W : WX}

/-! ## subscripts -/
def fIx : D → D → Rs D
  | .str z, .int i => if z.length ≤ sizeLine then (match atI z.cps.toList i with | some c => .ok (.str ⟨#[c]⟩) | none => .no) else .no
  | d, .int i => (match items d with | some ds => (match atI ds i with | some x => .ok x | none => .no) | none => .no)
  | _, _ => .no
theorem repL_at {F : Hp} {ds : List D} {vs : List V} {i : Int} {d : D} (h : RepL E F ds vs) (e : atI ds i = some d) : ∃ v, atI vs i = some v ∧ Rep E F d v := by
  unfold atI at e ⊢
  rw [← h.len]
  cases q : ixN ds.length i with
  | none => rw [q] at e; cases e
  | some j =>
    rw [q] at e
    exact h.get e
theorem ops_ix : OpS E (rIx E.K) fIx := by
  intro W F H σ dx dy x y Q s h1 h2 post
  unfold fIx at post
  split at post
  · rename_i z i
    by_cases c : z.length ≤ sizeLine
    · rw [if_pos c] at post
      split at post
      · rename_i ch e
        exact .inr (.inr ⟨z, i, ch, repO_str h1, repO_int h2, c, e, ev_ok s post rfl⟩)
      · exact post.elim
    · rw [if_neg c] at post; exact post.elim
  · rename_i i _
    split at post
    · rename_i ds e
      split at post
      · rename_i d ed
        obtain ⟨a, vs, rfl, q1, q2⟩ := repO_items s e h1
        obtain ⟨v, e1, e2⟩ := repL_at q2 ed
        by_cases t : isTup dx = true
        · rw [if_pos t] at q1
          exact .inr (.inl ⟨a, vs, i, v, rfl, repO_int h2, q1, e1, ev_ok s post e2⟩)
        · rw [if_neg t] at q1
          exact .inl ⟨a, vs, i, v, rfl, repO_int h2, q1, e1, ev_ok s post e2⟩
      · exact post.elim
    · exact post.elim
  · exact post.elim
theorem xe_ix {a b : Expr} {pos : Pos} {pa pb : Ev → Rs D} {k : Nat} (c : Ctx X E W k) (ha : XL X E W a pa) (hb : XL X E W b pb) (hs : PlainIx b := by exact fun _ _ => rfl) : XE X E W (.Subscript a b pos) (pBin fIx pa pb) := by
  obtain ⟨ta, a1, a2⟩ := ha
  obtain ⟨tb, b1, b2⟩ := hb
  exact ⟨tOp (rIx E.K) ta tb, fun i => by rw [← c.K i]; exact pe_ix ix_seq (a1 i) (b1 i) hs, evals_op ops_ix a2 b2⟩
/-! slices -/
def XO {I : Type} (X : I → Cx) (E : Am) (W : WX) (e : Option Expr) (p : Ev → Rs (Option Int)) : Prop := ∃ t, (∀ i, PO (X i) e t) ∧ Evals E W (fun _ _ _ a b => a = b) t p
def pNo : Ev → Rs (Option Int) := fun _ => .ok none
def pPart (p : Ev → Rs D) : Ev → Rs (Option Int) := fun ρ => (p ρ).bind fun d => match d with | .int i => .ok (some i) | _ => .no
theorem xo_none : XO X E W none pNo := ⟨_, fun _ => po_none, fun B F H σ ρ Q s sb r post => ev_ok s post rfl⟩
theorem xo_some {e : Expr} {p : Ev → Rs D} (h : XL X E W e p) : XO X E W (some e) (pPart p) := by
  obtain ⟨t, h1, h2⟩ := h
  refine ⟨_, fun i => po_some (h1 i), fun B F H σ ρ Q s sb r post => ?_⟩
  show t σ H _
  refine Evals.seq h2 s sb r post fun F1 H1 d v e1 x1 sb1 r1 gg post1 => ?_
  cases d <;> first | exact post1.elim | skip
  exact ⟨_, repO_int gg, ev_ok x1.fh post1 rfl⟩
def cutD {α : Type} (xs : List α) (lo hi : Option Int) : List α := (xs.drop (HT.sIx xs.length 0 lo)).take (HT.sIx xs.length xs.length hi - HT.sIx xs.length 0 lo)
theorem repL_cut {F : Hp} {ds : List D} {vs : List V} (h : RepL E F ds vs) (lo hi : Option Int) : RepL E F (cutD ds lo hi) (cutV vs lo hi) := by
  unfold cutD cutV
  rw [h.len]
  exact (h.drop _).take _
def fSlL (d : D) (lo hi : Option Int) : Rs D := match itemsL d with | some ds => .ok (.lst (cutD ds lo hi)) | none => .no
def fSlS (d : D) (lo hi : Option Int) : Rs D := match d with
  | .str z => if z.length ≤ sizeLine then .ok (.str (cutS z lo hi)) else .no
  | .tup ds => if HT.sIx ds.length 0 lo = 0 ∧ HT.sIx ds.length ds.length hi = ds.length then .no else .ok (.tup (cutD ds lo hi))
  | _ => .no
def pSl (f : D → Option Int → Option Int → Rs D) (p : Ev → Rs D) (l h : Ev → Rs (Option Int)) : Ev → Rs D := fun ρ => (p ρ).bind fun d => (l ρ).bind fun lo => (h ρ).bind fun hi => f d lo hi
theorem xn_sl {e : Expr} {lo hi : Option Expr} {pos p2 : Pos} {p : Ev → Rs D} {l h : Ev → Rs (Option Int)} {k : Nat} (c : Ctx X E W k) (he : XL X E W e p) (hl : XO X E W lo l) (hh : XO X E W hi h) : XN X E W (.Subscript e (.Slice lo hi none p2) pos) (pSl fSlL p l h) := by
  obtain ⟨t, h1, h2⟩ := he
  obtain ⟨tl, l1, l2⟩ := hl
  obtain ⟨th, u1, u2⟩ := hh
  refine ⟨tSl (rSlL E.K) t tl th, fun i => by rw [← c.K i]; exact pe_slice sl_list (h1 i) (l1 i) (u1 i), ?_⟩
  intro B F H σ ρ Q s sb r post
  show t σ H _
  refine Evals.seq (G2 := fun F' H' a b => GN E H F' H' a b) h2 s sb r post fun F1 H1 d v e1 x1 sb1 r1 gg post1 => ?_
  show tl σ H1 _
  refine Evals.seq (G2 := fun F' H' a b => GN E H F' H' a b) l2 x1.fh sb1 r1 post1 fun F2 H2 o o' e2 x2 sb2 r2 g2 post2 => ?_
  cases g2
  show th σ H2 _
  refine Evals.seq (G2 := fun F' H' a b => GN E H F' H' a b) u2 x2.fh sb2 r2 post2 fun F3 H3 o2 o2' e3 x3 sb3 r3 g3 post3 => ?_
  cases g3
  unfold fSlL at post3
  split at post3
  · rename_i ds ed
    obtain ⟨a, vs, rfl, q1, q2⟩ := repO_list x3.fh ed ((gg.mono x2).mono x3)
    exact ⟨a, vs, rfl, q1, fun p hp => post3 _ _ _ (Ext.newH x3.fh hp) (gn_newL x3.fh ((x1.trans x2).trans x3).h hp (repL_cut q2 _ _))⟩
  · exact post3.elim
def rSlA (K : PySem.W.Frag) : V → Option Int → Option Int → Hp → VK → Prop := fun x lo hi H Q => rSlS x lo hi H Q ∨ rSlT K x lo hi H Q
theorem xe_sl {e : Expr} {lo hi : Option Expr} {pos p2 : Pos} {p : Ev → Rs D} {l h : Ev → Rs (Option Int)} {k : Nat} (c : Ctx X E W k) (he : XL X E W e p) (hl : XO X E W lo l) (hh : XO X E W hi h) : XE X E W (.Subscript e (.Slice lo hi none p2) pos) (pSl fSlS p l h) := by
  obtain ⟨t, h1, h2⟩ := he
  obtain ⟨tl, l1, l2⟩ := hl
  obtain ⟨th, u1, u2⟩ := hh
  refine ⟨tSl (rSlA E.K) t tl th, fun i => by rw [← c.K i]; exact pe_slice (sl_str.or sl_tup) (h1 i) (l1 i) (u1 i), ?_⟩
  intro B F H σ ρ Q s sb r post
  show t σ H _
  refine Evals.seq h2 s sb r post fun F1 H1 d v e1 x1 sb1 r1 gg post1 => ?_
  show tl σ H1 _
  refine Evals.seq l2 x1.fh sb1 r1 post1 fun F2 H2 o o' e2 x2 sb2 r2 g2 post2 => ?_
  cases g2
  show th σ H2 _
  refine Evals.seq u2 x2.fh sb2 r2 post2 fun F3 H3 o2 o2' e3 x3 sb3 r3 g3 post3 => ?_
  cases g3
  have gg := (gg.mono x2).mono x3
  cases d with
  | str z =>
    have post3 : Post E W σ F3 H3 (GS E H3) Q (if z.length ≤ sizeLine then .ok (.str (cutS z o o2)) else .no) := post3
    by_cases c : z.length ≤ sizeLine
    · rw [if_pos c] at post3
      exact .inl ⟨z, repO_str gg, c, ev_ok x3.fh post3 rfl⟩
    · rw [if_neg c] at post3; exact post3.elim
  | tup ds =>
    have post3 : Post E W σ F3 H3 (GS E H3) Q (if HT.sIx ds.length 0 o = 0 ∧ HT.sIx ds.length ds.length o2 = ds.length then .no else .ok (.tup (cutD ds o o2))) := post3
    by_cases c : HT.sIx ds.length 0 o = 0 ∧ HT.sIx ds.length ds.length o2 = ds.length
    · rw [if_pos c] at post3; exact post3.elim
    · rw [if_neg c] at post3
      obtain ⟨a, vs, rfl, q1, q2⟩ := repO_tup gg
      refine .inr ⟨a, vs, rfl, sqT_mono x3.fh q1, by rw [← q2.len]; exact c, fun p hp => post3 _ _ _ (Ext.new x3.fh hp) (gs_newT x3.fh hp (repL_cut q2 _ _))⟩
  | _ => exact post3.elim

/-! ## fields -/
/-- what the walk asks of a class: its own methods' way of reading, no class attribute of these names -/
structure ClsOk (E : Am) (C : Str) (fs : List Str) : Prop where
  cl : Cls E.K (E.cl C)
  no : ∀ f ∈ fs, NoAttr E.K (E.cl C) f
def lookD (f : Str) : List Str → List D → Option D
  | n :: ns, d :: ds => if f = n then some d else lookD f ns ds
  | _, _ => none
theorem look_rep {F : Hp} {f : Str} {d : D} : ∀ {ns : List Str} {ds : List D} {vs : List V}, RepL E F ds vs → lookD f ns ds = some d → ∃ v, (ns.zip vs).lookup f = some v ∧ Rep E F d v
  | [], ds, vs, h, e => by simp [lookD] at e
  | n :: ns, [], vs, h, e => by simp [lookD] at e
  | n :: ns, x :: ds, vs, h, e => by
    obtain ⟨v, r, rfl, h1, h2⟩ := h
    unfold lookD at e
    by_cases q : f = n
    · rw [if_pos q] at e; cases e
      subst q
      exact ⟨v, by simp [List.lookup], h1⟩
    · rw [if_neg q] at e
      obtain ⟨u, e1, e2⟩ := look_rep h2 e
      refine ⟨u, ?_, e2⟩
      have qb : (f == n) = false := by simpa using q
      show (match f == n with | true => some v | false => (ns.zip r).lookup f) = some u
      rw [qb]; exact e1
theorem look_none {f : Str} : ∀ {ns : List Str} {vs : List V}, f ∉ ns → (ns.zip vs).lookup f = none
  | [], vs, h => rfl
  | n :: ns, [], h => rfl
  | n :: ns, v :: vs, h => by
    have qb : (f == n) = false := by
      have : f ≠ n := fun z => h (by rw [z]; exact List.mem_cons_self)
      simpa using this
    show (match f == n with | true => some v | false => (ns.zip vs).lookup f) = none
    rw [qb]; exact look_none fun z => h (List.mem_cons_of_mem _ z)
def fFld (C f : Str) : D → Rs D
  | .ins C' ns ds => if C' = C then (match lookD f ns ds with | some d => .ok d | none => .no) else .no
  | _ => .no
theorem repO_ins {F H : Hp} (s : Same F H) {C : Str} {ns : List Str} {ds : List D} {v : V} (h : RepO E F H (.ins C ns ds) v) : ∃ a dx vs, v = .ref a ∧ H a = some (.ins (E.cl C) dx (ns.zip vs)) ∧ ns.length = ds.length ∧ RepL E F ds vs := by
  rcases h with ⟨a, dx, vs, h1, h2, h3, h4⟩ | ⟨l, ho, h1, h2, dx, vs, h3, h4, h5⟩
  · exact ⟨a, dx, vs, h1, s _ _ h2, h3, h4⟩
  · exact ⟨l, dx, vs, h1, by rw [h2, h3], h4, h5⟩
theorem xe_fld {e : Expr} {f C : Str} {fs : List Str} {pos : Pos} {p : Ev → Rs D} {k : Nat} (c : Ctx X E W k) (hc : ClsOk E C fs) (hf : f ∈ fs) (h : XL X E W e p) (hb : ∀ i, attributeBase e f (X i).env (eval e (X i).env) = eval e (X i).env := by intro _; rfl) : XE X E W (.Attribute e f pos) (pUn (fFld C f) p) := by
  obtain ⟨t, h1, h2⟩ := h
  refine ⟨tFld E.K t f, fun i => by rw [← c.K i]; exact pe_fld (h1 i) (hb i), ?_⟩
  intro B F H σ ρ Q s sb r post
  show t σ H _
  refine Evals.seq h2 s sb r post fun F1 H1 d v e1 x1 sb1 r1 gg post1 => ?_
  unfold fFld at post1
  split at post1
  · rename_i C' ns ds
    by_cases c : C' = C
    · rw [if_pos c] at post1
      subst c
      split at post1
      · rename_i d' ed
        obtain ⟨a, dx, vs, rfl, q1, q2, q3⟩ := repO_ins x1.fh gg
        obtain ⟨v, e2, e3⟩ := look_rep q3 ed
        exact ⟨a, _, dx, _, v, rfl, q1, hc.cl, hc.no f hf, e2, ev_ok x1.fh post1 e3⟩
      · exact post1.elim
    · rw [if_neg c] at post1; exact post1.elim
  · exact post1.elim

/-! ## sorted -/
def alikeOk (ds : List D) : Bool := ds.all fun d => ds.all fun d' => PySem.W.alike (toPy d) (toPy d')
def tupOk : PyData → Bool | .tuple (_ :: _) => true | _ => false
def flatOk : PyData → Bool | .none => false | .tuple _ => false | _ => true
def sortOk (ds : List D) : Bool := alikeOk ds && (ds.all (fun d => tupOk (toPy d)) || ds.all (fun d => flatOk (toPy d))) && ds.all (fun d => shp d)
def dLe : D → D → Bool := PySem.W.dataLe false toPy
theorem each_vals : ∀ {zs : List (V × D)} {us : List Value}, Vals (zs.map Prod.fst) us → PySem.W.EachIs (fun v (b : V × D) => RelV b.1 v) us zs
  | [], us, h => by cases h; exact .nil
  | z :: zs, us, h => by cases h with | cons r t => exact .cons r (each_vals t)
theorem vals_each : ∀ {zs : List (V × D)} {us : List Value}, PySem.W.EachIs (fun v (b : V × D) => RelV b.1 v) us zs → Vals (zs.map Prod.fst) us
  | [], us, h => by cases h; exact .nil
  | z :: zs, us, h => by cases h with | cons r t => exact .cons r (vals_each t)
def rSrt (K : PySem.W.Frag) : List V → Hp → VK → Prop := fun vs H Q => ∃ (a : Addr) (zs : List (V × D)), vs = [.ref a] ∧ SqL K H a (zs.map Prod.fst) ∧ DpAll K H (zs.map Prod.fst) ((zs.map Prod.snd).map toPy) ∧
  PySem.W.AllAlike ((zs.map Prod.snd).map toPy) ∧ PySem.W.Sortable ((zs.map Prod.snd).map toPy) ∧ (∀ z ∈ zs, (toPy z.2).depth ≤ 64) ∧
  ∀ p, H p = none → Q (.ref p) (upd H p (.lst ((zs.mergeSort (PySem.W.dataLe false fun z => toPy z.2)).map Prod.fst)))
theorem cr_srt (hu : Y.A.units + 200 < cLine) : CallR Y (.builtin "sorted") (rSrt Y.K) := by
  intro pins s σ H vs us Q I r h
  obtain ⟨a, zs, rfl, hs, hd, h1, h2, h3, q⟩ := h
  obtain ⟨its, rv, hl, hz⟩ := I.list hs
  rw [Vals.ref1 r]
  obtain ⟨ws, rd⟩ := Dp.readsAll I _ _ _ hd rv
  have e1 : (zs.map Prod.snd).map toPy = zs.map fun z => toPy z.2 := by rw [List.map_map]; rfl
  rw [e1] at rd h1 h2
  rw [List.length_map] at hz
  refine PySem.W.sorted_data (bs := zs) (R := fun v (b : V × D) => RelV b.1 v) (enc := fun z => toPy z.2) hl.isList (each_vals rv) (PySem.W.readsAll_each _ rd) h1 h2 hz (fun b hb => by have := h3 b hb; omega) fun out ho eo => ?_
  obtain ⟨ep, he'⟩ := PyProof.Rows.sortedAll_at s.heap its out.toArray
  have hv := vals_each eo
  have hlen : ((zs.mergeSort (PySem.W.dataLe false fun z => toPy z.2)).map Prod.fst).length ≤ sizeLine := by rw [List.length_map, List.length_mergeSort]; exact hz
  exact ⟨.ref _, upd H (s.heap.objs.size + 1) (.lst ((zs.mergeSort (PySem.W.dataLe false fun z => toPy z.2)).map Prod.fst)), I.laid (t' := s.toks) (fun _ _ => PyProof.Rows.sortedAll_old) (Nat.le_succ _) ⟨hlen, out, ep, hv, he'⟩, rfl, q _ (I.hok.fresh (Nat.le_succ _))⟩
def fSorted : List D → Rs D
  | [d] => (match itemsL d with | some ds => if sortOk ds && decide (ds.length ≤ sizeLine) then .ok (.lst (ds.mergeSort dLe)) else .no | none => .no)
  | _ => .no
theorem repL_zip {F : Hp} : ∀ {ds : List D} {vs : List V}, RepL E F ds vs → (vs.zip ds).map Prod.fst = vs ∧ (vs.zip ds).map Prod.snd = ds ∧ ∀ z ∈ vs.zip ds, Rep E F z.2 z.1
  | [], vs, h => by cases h; exact ⟨rfl, rfl, fun z hz => by simp at hz⟩
  | d :: ds, vs, h => by
    obtain ⟨v, r, rfl, h1, h2⟩ := h
    obtain ⟨a, b, c⟩ := repL_zip h2
    refine ⟨by simp [a], by simp [b], fun z hz => ?_⟩
    rw [List.zip_cons_cons] at hz
    rcases List.mem_cons.mp hz with rfl | hz
    · exact h1
    · exact c z hz
theorem repL_of_all {F : Hp} : ∀ {zs : List (V × D)}, (∀ z ∈ zs, Rep E F z.2 z.1) → RepL E F (zs.map Prod.snd) (zs.map Prod.fst)
  | [], _ => rfl
  | z :: zs, h => .cons (h z List.mem_cons_self) (repL_of_all fun y hy => h y (List.mem_cons_of_mem _ hy))
theorem shpAll_lay : ∀ {ds : List D}, ds.all (fun d => shp d) = true → PyData.canLayAll0 (toPyL ds) = true
  | [], _ => rfl
  | d :: ds, h => by
    rw [List.all_cons, Bool.and_eq_true] at h
    show ((toPy d).canLay0 && PyData.canLayAll0 (toPyL ds)) = true
    rw [SeqAt.canLay_of_shaped h.1, shpAll_lay h.2]; rfl
theorem cals_sorted : CalS E (GN E) (rSrt E.K) fSorted := by
  intro W F H σ ds vs Q s h post
  unfold fSorted at post
  split at post
  · split at post
    · rename_i es e
      by_cases c : (sortOk es && decide (es.length ≤ sizeLine)) = true
      · rw [if_pos c] at post
        obtain ⟨c0, c9⟩ := Bool.and_eq_true_iff.mp c
        obtain ⟨c1, c2⟩ := Bool.and_eq_true_iff.mp c0
        obtain ⟨c3, c4⟩ := Bool.and_eq_true_iff.mp c1
        obtain ⟨v, rfl, h1⟩ := rol1 h
        obtain ⟨a, us, rfl, q1, q2⟩ := repO_list s e h1
        obtain ⟨z1, z2, z3⟩ := repL_zip q2
        have hd := RepL.dp s es us (shpAll_lay c2) q2
        rw [toPyL_map] at hd
        refine ⟨a, us.zip es, rfl, by rw [z1]; exact q1, by rw [z1, z2]; exact hd, ?_, ?_, ?_, fun p hp => ?_⟩
        · rw [z2]
          intro d hdm d' hdm'
          obtain ⟨x, hx, rfl⟩ := List.mem_map.mp hdm
          obtain ⟨y, hy, rfl⟩ := List.mem_map.mp hdm'
          exact List.all_eq_true.mp (List.all_eq_true.mp c3 x hx) y hy
        · rw [z2]
          rcases Bool.or_eq_true_iff.mp c4 with c5 | c5
          · refine .inl fun d hdm => ?_
            obtain ⟨x, hx, rfl⟩ := List.mem_map.mp hdm
            have := List.all_eq_true.mp c5 x hx
            cases q : toPy x <;> rw [q] at this <;> simp [tupOk] at this
            rename_i l
            cases l with
            | nil => simp at this
            | cons x r => exact ⟨x, r, rfl⟩
          · refine .inr fun d hdm => ?_
            obtain ⟨x, hx, rfl⟩ := List.mem_map.mp hdm
            have := List.all_eq_true.mp c5 x hx
            cases q : toPy x <;> rw [q] at this <;> simp [flatOk] at this <;> exact ⟨by simp, by simp⟩
        · intro z hz
          have hm : z.2 ∈ es := by rw [← z2]; exact List.mem_map_of_mem hz
          exact SeqAt.depth_of_shaped (List.all_eq_true.mp c2 z.2 hm)
        · refine post _ _ _ (Ext.newH s hp) (gn_newL s (Same.refl H) hp ?_)
          have e5 : es.mergeSort dLe = ((us.zip es).mergeSort (PySem.W.dataLe false fun z => toPy z.2)).map Prod.snd := by
            have e6 := List.map_mergeSort (r := PySem.W.dataLe false fun z : V × D => toPy z.2) (s := dLe) (f := Prod.snd) (l := us.zip es) (fun a _ b _ => rfl)
            rw [e6, z2]
          rw [e5]
          exact repL_of_all fun z hz => z3 z (List.mem_mergeSort.mp hz)
      · rw [if_neg c] at post; exact post.elim
    · exact post.elim
  · exact post.elim
end DL
end

section
set_option linter.all false
set_option maxRecDepth 100000
set_option maxHeartbeats 4000000
namespace DL
open PySem PySem.Spec L2
section
variable {I : Type} {X : I → Cx} {E : Am} {W : WX} {k : Nat} {a b d : Expr} {pos : Pos} {pa pb pd : Ev → Rs D}

/-! ## the operators by name -/
theorem xe_add (c : Ctx X E W k) (ha : XL X E W a pa) (hb : XL X E W b pb) : XE X E W (.BinOp a .Add b pos) (pBin fAdd pa pb) := xe_bin (fun i => by rw [← c.K i]; exact op_addA) ops_add ha hb
theorem xe_sub (c : Ctx X E W k) (ha : XL X E W a pa) (hb : XL X E W b pb) : XE X E W (.BinOp a .Sub b pos) (pBin fSub pa pb) := xe_bin (fun i => op_sub) ops_sub ha hb
theorem xe_mul (c : Ctx X E W k) (ha : XL X E W a pa) (hb : XL X E W b pb) : XE X E W (.BinOp a .Mult b pos) (pBin fMul pa pb) := xe_bin (fun i => op_mulA) ops_mul ha hb
theorem xe_div (c : Ctx X E W k) (ha : XL X E W a pa) (hb : XL X E W b pb) : XE X E W (.BinOp a .FloorDiv b pos) (pBin fDiv pa pb) := xe_bin (fun i => op_fdivW) ops_div ha hb
theorem xe_mod (c : Ctx X E W k) (ha : XL X E W a pa) (hb : XL X E W b pb) : XE X E W (.BinOp a .Mod b pos) (pBin fMod pa pb) := xe_bin (fun i => op_mod) ops_mod ha hb
theorem xe_pow (c : Ctx X E W k) (ha : XL X E W a pa) (hb : XL X E W b pb) : XE X E W (.BinOp a .Pow b pos) (pBin fPow pa pb) := xe_bin (fun i => op_pow) ops_pow ha hb
/-- a comparison's rule -/
def CmpR {I : Type} (X : I → Cx) (E : Am) (op : CmpOp) (f : D → D → Rs D) : Prop := ∃ r, (∀ i, OpR (X i) (compareOp op) r) ∧ OpS E r f
theorem cmp_lt (c : Ctx X E W k) : CmpR X E .Lt fLt := ⟨_, fun _ => op_lt, ops_lt⟩
theorem cmp_le (c : Ctx X E W k) : CmpR X E .LtE fLe := ⟨_, fun _ => op_le, ops_le⟩
theorem cmp_gt (c : Ctx X E W k) : CmpR X E .Gt fGt := ⟨_, fun _ => op_gt, ops_gt⟩
theorem cmp_ge (c : Ctx X E W k) : CmpR X E .GtE fGe := ⟨_, fun _ => op_ge, ops_ge⟩
theorem cmp_eq (c : Ctx X E W k) : CmpR X E .Eq fEq := ⟨_, fun i => by have := c.hu i; rw [← c.K i]; exact op_eqA (by omega), ops_eq⟩
theorem cmp_ne (c : Ctx X E W k) : CmpR X E .NotEq fNe := ⟨_, fun i => by have := c.hu i; rw [← c.K i]; exact op_neA (by omega), ops_ne⟩
theorem cmp_is (c : Ctx X E W k) : CmpR X E .Is fIs := ⟨_, fun _ => op_isN, ops_is⟩
theorem cmp_isNot (c : Ctx X E W k) : CmpR X E .IsNot fIsNot := ⟨_, fun _ => op_notN, ops_isNot⟩
theorem cmp_in (c : Ctx X E W k) : CmpR X E .In (fIn false) := ⟨_, fun i => by rw [← c.K i]; exact op_inA, ops_in⟩
theorem cmp_notIn (c : Ctx X E W k) : CmpR X E .NotIn (fIn true) := ⟨_, fun i => by rw [← c.K i]; exact op_notInA, ops_notIn⟩
theorem ye_cmp {op : CmpOp} {f : D → D → Rs D} (h : CmpR X E op f) (ha : XL X E W a pa) (hb : XL X E W b pb) (hm : behindInMarks op b = false) : XE X E W (.Compare a [op] [b] pos) (pBin f pa pb) := by
  obtain ⟨r, h1, h2⟩ := h
  exact xe_cmp h1 h2 ha hb hm
theorem yt_cmp {op : CmpOp} {f : D → D → Rs D} (h : CmpR X E op f) (ha : XL X E W a pa) (hb : XL X E W b pb) (hm : behindInMarks op b = false) : XT X E W (.Compare a [op] [b] pos) (fun ρ => (pBin f pa pb ρ).bind toB) := by
  obtain ⟨r, h1, h2⟩ := h
  exact xt_cmp h1 h2 ha hb hm
theorem ye_chain {op op' : CmpOp} {f f' : D → D → Rs D} (h : CmpR X E op f) (h' : CmpR X E op' f') (ha : XL X E W a pa) (hb : XL X E W b pb) (hd : XL X E W d pd) (hm : lastMarks [op, op'] [b, d] = false := by with_unfolding_all rfl) : XE X E W (.Compare a [op, op'] [b, d] pos) (pChain f f' pa pb pd) := by
  obtain ⟨r, h1, h2⟩ := h
  obtain ⟨r', h3, h4⟩ := h'
  exact xe_chain h1 h2 h3 h4 ha hb hd hm
theorem yt_chain {op op' : CmpOp} {f f' : D → D → Rs D} (h : CmpR X E op f) (h' : CmpR X E op' f') (ha : XL X E W a pa) (hb : XL X E W b pb) (hd : XL X E W d pd) (hm : lastMarks [op, op'] [b, d] = false := by with_unfolding_all rfl) : XT X E W (.Compare a [op, op'] [b, d] pos) (fun ρ => (pChain f f' pa pb pd ρ).bind toB) := by
  obtain ⟨r, h1, h2⟩ := h
  obtain ⟨r', h3, h4⟩ := h'
  exact xt_chain h1 h2 h3 h4 ha hb hd hm
end

/-! ## targets -/
def GTok (E : Am) (vs : List Nat) (g : TG) (pg : D → Ev → Option Ev) : Prop :=
  ∀ (B F H : Hp) (σ : L2.St) (ρ : Ev) (d : D) (v : V) (Q : L2.St → Hp → Prop) (ρ' : Ev), Same F H → StR E B F H σ ρ → Rep E F d v → pg d ρ = some ρ' →
    (∀ σ', StR E B F H σ' ρ' → σ'.length = σ.length → (∀ j, j ∉ vs → σ'[j]? = σ[j]?) → Q σ' H) → g v σ H Q
def XG {I : Type} (X : I → Cx) (E : Am) (tg : Expr) (vs : List Nat) (pg : D → Ev → Option Ev) : Prop := ∃ g, (∀ i, PG (X i) tg g) ∧ GTok E vs g pg
def gN (i : Nat) : D → Ev → Option Ev := fun d ρ => some (ρ.set i (.dat d))
def GTsok (E : Am) (vs : List Nat) (g : TGs) (pg : List D → Ev → Option Ev) : Prop :=
  ∀ (B F H : Hp) (σ : L2.St) (ρ : Ev) (ds : List D) (us : List V) (Q : L2.St → Hp → Prop) (ρ' : Ev), Same F H → StR E B F H σ ρ → RepL E F ds us → pg ds ρ = some ρ' →
    (∀ σ', StR E B F H σ' ρ' → σ'.length = σ.length → (∀ j, j ∉ vs → σ'[j]? = σ[j]?) → Q σ' H) → g us σ H Q
def XGs {I : Type} (X : I → Cx) (E : Am) (ts : List Expr) (vs : List Nat) (pg : List D → Ev → Option Ev) : Prop := ∃ g, (∀ i, PGs (X i) ts g) ∧ GTsok E vs g pg
section
variable {I : Type} {X : I → Cx} {E : Am} {W : WX} {k : Nat}
theorem xg_name {e : Expr} {i : Nat} (h : ∀ j, PG (X j) e (gName i)) : XG X E e [i] (gN i) := by
  refine ⟨_, h, fun B F H σ ρ d v Q ρ' s r rep e q => ?_⟩
  cases e
  refine q _ (r.setD rep) (by simp) fun j hj => ?_
  rw [List.getElem?_set_ne (by simp at hj; omega)]
def gsNil : List D → Ev → Option Ev := fun ds ρ => match ds with | [] => some ρ | _ => none
def gsCons (p : D → Ev → Option Ev) (q : List D → Ev → Option Ev) : List D → Ev → Option Ev := fun ds ρ => match ds with | d :: r => (p d ρ).bind fun ρ1 => q r ρ1 | [] => none
theorem xgs_nil : XGs X E [] [] gsNil := by
  refine ⟨_, fun _ => pgs_nil, fun B F H σ ρ ds us Q ρ' s r rep e q => ?_⟩
  cases ds with
  | nil => cases e; cases rep; exact ⟨rfl, q σ r rfl fun _ _ => rfl⟩
  | cons _ _ => cases e
theorem xgs_cons {e : Expr} {es : List Expr} {vs us : List Nat} {p : D → Ev → Option Ev} {q : List D → Ev → Option Ev} (h : XG X E e vs p) (h' : XGs X E es us q)
    (hs : ∀ i, (assignEach (e :: es) (X i).env).map (·.2) = assign e (X i).env :: (assignEach es (X i).env).map (·.2) := by intro _; rfl) : XGs X E (e :: es) (vs ++ us) (gsCons p q) := by
  obtain ⟨g, g1, g2⟩ := h
  obtain ⟨t, t1, t2⟩ := h'
  refine ⟨_, fun i => pgs_cons (g1 i) (t1 i) (hs i), fun B F H σ ρ ds ws Q ρ' s r rep e q => ?_⟩
  cases ds with
  | nil => cases e
  | cons d ds =>
    obtain ⟨v, vr, rfl, h1, h2⟩ := rep
    unfold gsCons at e
    obtain ⟨ρ1, e1, e2⟩ := Option.bind_eq_some_iff.mp e
    refine ⟨v, vr, rfl, g2 B F H σ ρ d v _ ρ1 s r h1 e1 fun σ1 r1 l1 k1 => ?_⟩
    refine t2 B F H σ1 ρ1 ds vr Q ρ' s r1 h2 e2 fun σ2 r2 l2 k2 => ?_
    refine q σ2 r2 (l2.trans l1) fun j hj => ?_
    rw [k2 j (fun z => hj (List.mem_append_right _ z)), k1 j (fun z => hj (List.mem_append_left _ z))]
def gTp (q : List D → Ev → Option Ev) : D → Ev → Option Ev := fun d ρ => match d with | .tup ds => q ds ρ | _ => none
/-- a, b, .. = a tuple -/
theorem xg_tup {es : List Expr} {kk : Nat} {pos : Pos} {vs : List Nat} {q : List D → Ev → Option Ev} {n : Nat} (c : Ctx X E W k) (h : XGs X E es vs q) (hl : ∀ ds ρ ρ', q ds ρ = some ρ' → ds.length = n)
    (hn : ∀ i, (assignEach es (X i).env).length = n := by intro _; rfl) (hst : ∀ i, (assignEach es (X i).env).findIdx? (·.1) = none := by intro _; rfl) : XG X E (.Tuple es kk pos) vs (gTp q) := by
  obtain ⟨g, g1, g2⟩ := h
  refine ⟨gTup E.K n g, fun i => by rw [← c.K i]; exact pg_tup (c.calm i) (g1 i) (hn i) (hst i), fun B F H σ ρ d v Q ρ' s r rep e q => ?_⟩
  cases d <;> first | (cases e; done) | skip
  rename_i ds
  obtain ⟨a, us, rfl, h2, h3⟩ := rep
  have hlen := hl ds ρ ρ' e
  exact ⟨a, us, rfl, sqT_mono s h2, by rw [← h3.len]; exact hlen, g2 B F H σ ρ ds us Q ρ' s r h3 e q⟩
theorem gs_len0 : ∀ ds ρ ρ', gsNil ds ρ = some ρ' → ds.length = 0 := fun ds ρ ρ' e => by cases ds with | nil => rfl | cons _ _ => cases e
theorem gs_lenS {p : D → Ev → Option Ev} {q : List D → Ev → Option Ev} {n : Nat} (h : ∀ ds ρ ρ', q ds ρ = some ρ' → ds.length = n) : ∀ ds ρ ρ', gsCons p q ds ρ = some ρ' → ds.length = n + 1 := fun ds ρ ρ' e => by
  cases ds with
  | nil => cases e
  | cons d ds =>
    obtain ⟨ρ1, e1, e2⟩ := Option.bind_eq_some_iff.mp (show (p d ρ).bind (fun ρ1 => q ds ρ1) = some ρ' from e)
    rw [List.length_cons, h _ _ _ e2]
end

/-! ## what is walked -/
def Src (E : Am) (F' : Hp) (J : It) (ds : List D) : Prop := ∃ (G : Hp → Prop) (Y : Nat → Hp → V → Hp → Prop), Walk J ds.length G Y ∧ (∀ H2, Same F' H2 → G H2) ∧
  ∀ i H2 x H3 F2 d, ds[i]? = some d → Same F' F2 → Same F2 H2 → Y i H2 x H3 → ∃ F3, Ext F2 H2 F3 H3 ∧ Rep E F3 d x
abbrev GI (E : Am) : Hp → Hp → Hp → List D → It → Prop := fun _ F _ ds J => Src E F J ds
def XI {I : Type} (X : I → Cx) (E : Am) (W : WX) (tg iter : Expr) (p : Ev → Rs (List D)) : Prop := ∃ wi, (∀ i, PI (X i) tg iter wi) ∧ Evals E W (GI E) wi p
theorem pi_or {X : Cx} {tg iter : Expr} {w u : TI} (h : PI X tg iter w) (h' : PI X tg iter u) : PI X tg iter (fun σ H R => w σ H R ∨ u σ H R) := ⟨fun pins s σ H R I q => q.elim (h.run pins s σ H R I) (h'.run pins s σ H R I)⟩
def iterD : D → Option (List D)
  | .tup ds => some ds | .lst ds => some ds | .kl ds => some ds
  | .str z => some (z.cps.toList.map fun c => .str ⟨#[c]⟩)
  | _ => none
def pIter (p : Ev → Rs D) : Ev → Rs (List D) := fun ρ => (p ρ).bind fun d => match iterD d with | some ds => .ok ds | none => .no
section
variable {I : Type} {X : I → Cx} {E : Am} {W : WX} {k : Nat}
theorem src_list {F : Hp} {a : Addr} {vs : List V} {ds : List D} (h : SqL E.K F a vs) (r : RepL E F ds vs) : Src E F (Itl E.K a) ds := by
  refine ⟨_, _, by rw [r.len]; exact walk_list, fun H2 s => sqL_mono s h, fun i H2 x H3 F2 d e s1 s2 y => ?_⟩
  obtain ⟨rfl, y⟩ := y
  obtain ⟨d', e1, e2⟩ := r.getV y
  rw [e] at e1; cases e1
  exact ⟨F2, Ext.refl s2, Rep.mono s1 _ _ e2⟩
theorem src_tup {F : Hp} {a : Addr} {vs : List V} {ds : List D} (h : SqT E.K F a vs) (r : RepL E F ds vs) : Src E F (Itt E.K a) ds := by
  refine ⟨_, _, by rw [r.len]; exact walk_tup, fun H2 s => sqT_mono s h, fun i H2 x H3 F2 d e s1 s2 y => ?_⟩
  obtain ⟨rfl, y⟩ := y
  obtain ⟨d', e1, e2⟩ := r.getV y
  rw [e] at e1; cases e1
  exact ⟨F2, Ext.refl s2, Rep.mono s1 _ _ e2⟩
theorem src_str {F : Hp} {z : Str} : Src E F (Its z) (z.cps.toList.map fun c => .str ⟨#[c]⟩) := by
  refine ⟨_, _, by rw [List.length_map, Array.length_toList]; exact walk_str, fun _ _ => trivial, fun i H2 x H3 F2 d e s1 s2 y => ?_⟩
  obtain ⟨rfl, ch, y1, rfl⟩ := y
  refine ⟨F2, Ext.refl s2, ?_⟩
  rw [List.getElem?_map] at e
  have : z.cps.toList[i]? = some ch := by rw [Array.getElem?_toList]; exact y1
  rw [this] at e
  cases e
  rfl
theorem xi_seq {tg e : Expr} {p : Ev → Rs D} (c : Ctx X E W k) (h : XE X E W e p) : XI X E W tg e (pIter p) := by
  obtain ⟨t, h1, h2⟩ := h
  refine ⟨fun σ H R => iList E.K t σ H R ∨ (iTup E.K t σ H R ∨ iStr t σ H R), fun i => by rw [← c.K i]; exact pi_or (pi_list (h1 i)) (pi_or (pi_tup (h1 i)) (pi_str (h1 i))), fun B F H σ ρ Q s sb r post => ?_⟩
  cases e : p ρ with
  | no => unfold pIter at post; rw [e] at post; exact post.elim
  | err c z =>
    left
    show t σ H _
    exact Evals.seq h2 s sb r post fun F1 H1 d v e1 x1 sb1 r1 gg post1 => by rw [e] at e1; cases e1
  | ok d =>
    have key : ∀ ds, iterD d = some ds → (pIter p ρ) = .ok ds := fun ds hd => by unfold pIter; rw [e]; simp [hd]
    cases d with
    | lst ds =>
      rw [key ds rfl] at post
      left
      show t σ H _
      refine Evals.seq (k := fun d => .ok ds) h2 s sb r (by rw [e]; exact post) fun F1 H1 d v e1 x1 sb1 r1 gg post1 => ?_
      rw [e] at e1; cases e1
      obtain ⟨a, vs, rfl, q1, q2⟩ := gg
      exact ⟨a, rfl, ⟨vs, sqL_mono x1.fh (SqL.of q1)⟩, ev_ok x1.fh post1 (src_list (SqL.of q1) q2)⟩
    | kl ds =>
      rw [key ds rfl] at post
      left
      show t σ H _
      refine Evals.seq (k := fun d => .ok ds) h2 s sb r (by rw [e]; exact post) fun F1 H1 d v e1 x1 sb1 r1 gg post1 => ?_
      rw [e] at e1; cases e1
      obtain ⟨a, vs, rfl, q1, q2⟩ := gg
      exact ⟨a, rfl, ⟨vs, sqL_mono x1.fh q1⟩, ev_ok x1.fh post1 (src_list q1 q2)⟩
    | tup ds =>
      rw [key ds rfl] at post
      right; left
      show t σ H _
      refine Evals.seq (k := fun d => .ok ds) h2 s sb r (by rw [e]; exact post) fun F1 H1 d v e1 x1 sb1 r1 gg post1 => ?_
      rw [e] at e1; cases e1
      obtain ⟨a, vs, rfl, q1, q2⟩ := gg
      exact ⟨a, rfl, ⟨vs, sqT_mono x1.fh q1⟩, ev_ok x1.fh post1 (src_tup q1 q2)⟩
    | str z =>
      rw [key _ rfl] at post
      right; right
      show t σ H _
      refine Evals.seq (k := fun d => .ok _) h2 s sb r (by rw [e]; exact post) fun F1 H1 d v e1 x1 sb1 r1 gg post1 => ?_
      rw [e] at e1; cases e1
      cases gg
      exact ⟨z, rfl, ev_ok x1.fh post1 src_str⟩
    | _ => exfalso; unfold pIter at post; rw [e] at post; exact post
def rgD (lo : Int) (n : Nat) : List D := (List.range n).map fun i => .int (lo + (i : Nat))
def rgOk (i : Int) : Bool := decide (-(2 ^ 62) ≤ i) && decide (i < 2 ^ 62)
def pRg1 (q : Ev → Rs (List D)) : Ev → Rs (List D) := fun ρ => (q ρ).bind fun ds => match ds with | [.int n] => if rgOk n then .ok (rgD 0 n.toNat) else .no | _ => .no
def pRg2 (q : Ev → Rs (List D)) : Ev → Rs (List D) := fun ρ => (q ρ).bind fun ds => match ds with | [.int a, .int n] => if rgOk a && rgOk n then .ok (rgD a (n - a).toNat) else .no | _ => .no
theorem src_range {F : Hp} {lo : Int} {n : Nat} : Src E F (Itr lo n) (rgD lo n) := by
  refine ⟨_, _, by unfold rgD; rw [List.length_map, List.length_range]; exact walk_range, fun _ _ => trivial, fun i H2 x H3 F2 d e s1 s2 y => ?_⟩
  obtain ⟨rfl, rfl⟩ := y
  refine ⟨F2, Ext.refl s2, ?_⟩
  unfold rgD at e
  rw [List.getElem?_map] at e
  cases q : (List.range n)[i]? with
  | none => rw [q] at e; cases e
  | some j =>
    rw [q] at e
    have hj : i = j := by
      have := List.getElem?_eq_some_iff.mp q
      obtain ⟨h1, h2⟩ := this
      rw [List.getElem_range] at h2
      exact h2
    subst hj
    cases e
    rfl
theorem rgOk_iff {i : Int} (h : rgOk i = true) : -(2 ^ 62) ≤ i ∧ i < 2 ^ 62 := by
  obtain ⟨h1, h2⟩ := Bool.and_eq_true_iff.mp h
  exact ⟨of_decide_eq_true h1, of_decide_eq_true h2⟩
theorem xi_range1 {tg e : Expr} {p pos : Pos} {q : Ev → Rs (List D)} (hg : ∀ i, Gl (X i) "range") (hm : ∀ i, (X i).mg "range" = none) (ha : XAL X E W [e] q) (hs : ∀ i, starEach [e] (X i).env = [(false, eval e (X i).env)] := by intro _; rfl) : XI X E W tg (.Call (.Name "range" p) [e] [] pos) (pRg1 q) := by
  obtain ⟨t, h1, h2⟩ := ha
  refine ⟨_, fun i => pi_range1 (hg i) (hm i) (h1 i) (hs i), fun B F H σ ρ Q s sb r post => ?_⟩
  show t σ H _
  refine Evals.seq h2 s sb r post fun F1 H1 ds vs e1 x1 sb1 r1 gg post1 => ?_
  split at post1
  · rename_i n
    by_cases c : rgOk n = true
    · rw [if_pos c] at post1
      obtain ⟨v, rfl, g1⟩ := rol1 gg
      cases repO_int g1
      obtain ⟨c1, c2⟩ := rgOk_iff c
      exact ⟨n, rfl, c1, c2, ev_ok x1.fh post1 src_range⟩
    · rw [if_neg c] at post1; exact post1.elim
  · exact post1.elim
theorem xi_range2 {tg e e2 : Expr} {p pos : Pos} {q : Ev → Rs (List D)} (hg : ∀ i, Gl (X i) "range") (hm : ∀ i, (X i).mg "range" = none) (ha : XAL X E W [e, e2] q) (hs : ∀ i, starEach [e, e2] (X i).env = [(false, eval e (X i).env), (false, eval e2 (X i).env)] := by intro _; rfl) (hs2 : ∀ i, starEach [e2] (X i).env = [(false, eval e2 (X i).env)] := by intro _; rfl) :
    XI X E W tg (.Call (.Name "range" p) [e, e2] [] pos) (pRg2 q) := by
  obtain ⟨t, h1, h2⟩ := ha
  refine ⟨_, fun i => pi_range2 (hg i) (hm i) (h1 i) (hs i) (hs2 i), fun B F H σ ρ Q s sb r post => ?_⟩
  show t σ H _
  refine Evals.seq h2 s sb r post fun F1 H1 ds vs e1 x1 sb1 r1 gg post1 => ?_
  split at post1
  · rename_i a n
    by_cases c : (rgOk a && rgOk n) = true
    · rw [if_pos c] at post1
      obtain ⟨v, u, rfl, g1, g2⟩ := rol2 gg
      cases repO_int g1
      cases repO_int g2
      obtain ⟨d1, d2⟩ := Bool.and_eq_true_iff.mp c
      obtain ⟨c1, c2⟩ := rgOk_iff d1
      obtain ⟨c3, c4⟩ := rgOk_iff d2
      exact ⟨a, n, rfl, ⟨c1, c2, c3, c4⟩, ev_ok x1.fh post1 src_range⟩
    · rw [if_neg c] at post1; exact post1.elim
  · exact post1.elim
/-- enumerate(list) -/
def enumD (lo : Int) : List D → List D
  | [] => []
  | d :: ds => .tup [.int lo, d] :: enumD (lo + 1) ds
theorem enumD_get : ∀ {ds : List D} {lo : Int} {i : Nat} {x : D}, (enumD lo ds)[i]? = some x → ∃ d, ds[i]? = some d ∧ x = .tup [.int (lo + (i : Nat)), d]
  | [], lo, i, x, h => by simp [enumD] at h
  | d :: ds, lo, 0, x, h => by simp [enumD] at h; subst h; exact ⟨d, rfl, by simp⟩
  | d :: ds, lo, i + 1, x, h => by
    obtain ⟨y, e1, e2⟩ := enumD_get (ds := ds) (lo := lo + 1) (i := i) (by simpa [enumD] using h)
    refine ⟨y, by simpa using e1, ?_⟩
    rw [e2]
    have : lo + 1 + (i : Int) = lo + ((i + 1 : Nat) : Int) := by omega
    rw [this]
theorem enumD_len : ∀ {ds : List D} {lo : Int}, (enumD lo ds).length = ds.length
  | [], _ => rfl
  | d :: ds, lo => by simp [enumD, enumD_len]
def pEnum (q : Ev → Rs (List D)) : Ev → Rs (List D) := fun ρ => (q ρ).bind fun ds => match ds with | [d] => (match itemsL d with | some es => .ok (enumD 0 es) | none => .no) | _ => .no
theorem src_pair {F2 H2 H3 : Hp} {x y : V} {dx dy : D} {v : V} {T : Addr} (s2 : Same F2 H2) (hT : H2 T = none) (e : H3 = upd H2 T (.tup [x, y])) (ev : v = .ref T) (rx : Rep E F2 dx x) (ry : Rep E F2 dy y) : ∃ F3, Ext F2 H2 F3 H3 ∧ Rep E F3 (.tup [dx, dy]) v := by
  subst e ev
  exact ⟨upd F2 T (.tup [x, y]), Ext.new s2 hT, gs_newT s2 hT (.cons rx (.cons ry rfl))⟩
theorem src_enum {F : Hp} {a : Addr} {vs : List V} {ds : List D} (h : SqL E.K F a vs) (r : RepL E F ds vs) : Src E F (Ite E.K a) (enumD 0 ds) := by
  refine ⟨_, _, by rw [enumD_len, r.len]; exact walk_enum, fun H2 s => sqL_mono s h, fun i H2 x H3 F2 d e s1 s2 y => ?_⟩
  obtain ⟨T, x1, y1, e1, e2, e3, e4, e5⟩ := y
  obtain ⟨d', f1, f2⟩ := enumD_get e
  obtain ⟨d2, g1, g2⟩ := r.getV e5
  rw [f1] at g1; cases g1
  cases e4
  subst f2
  have z : (0 : Int) + (i : Int) = (i : Int) := by omega
  rw [z]
  exact src_pair s2 e2 e3 e1 rfl (Rep.mono s1 _ _ g2)
theorem xi_enum {e : Expr} {p pos tpos : Pos} {elts : List Expr} {kk : Nat} {q : Ev → Rs (List D)} (c : Ctx X E W k) (hg : ∀ i, Gl (X i) "enumerate") (hm : ∀ i, (X i).mg "enumerate" = none) (ha : XA X E W [e] q) (hs : ∀ i, starEach [e] (X i).env = [(false, eval e (X i).env)] := by intro _; rfl) :
    XI X E W (.Tuple elts kk tpos) (.Call (.Name "enumerate" p) [e] [] pos) (pEnum q) := by
  obtain ⟨t, h1, h2⟩ := ha
  refine ⟨iEnum E.K t, fun i => by rw [← c.K i]; exact pi_enum (hg i) (hm i) (h1 i) (hs i), fun B F H σ ρ Q s sb r post => ?_⟩
  show t σ H _
  refine Evals.seq h2 s sb r post fun F1 H1 ds vs e1 x1 sb1 r1 gg post1 => ?_
  split at post1
  · split at post1
    · rename_i d es ed
      obtain ⟨v, r', rfl, g1, g2⟩ := gg
      cases g2
      obtain ⟨a, us, rfl, q1, q2⟩ := repO_list (F := F1) (H := F1) (Same.refl F1) ed (.inl g1)
      exact ⟨a, us, rfl, sqL_mono x1.fh q1, ev_ok x1.fh post1 (src_enum q1 q2)⟩
    · exact post1.elim
  · exact post1.elim
def zipD : List D → List D → List D
  | x :: xs, y :: ys => .tup [x, y] :: zipD xs ys
  | _, _ => []
theorem zipD_get : ∀ {xs ys : List D} {i : Nat} {x : D}, (zipD xs ys)[i]? = some x → ∃ a b, xs[i]? = some a ∧ ys[i]? = some b ∧ x = .tup [a, b]
  | [], _, i, x, h => by simp [zipD] at h
  | _ :: _, [], i, x, h => by simp [zipD] at h
  | a :: xs, b :: ys, 0, x, h => by simp [zipD] at h; subst h; exact ⟨a, b, rfl, rfl, rfl⟩
  | a :: xs, b :: ys, i + 1, x, h => by
    obtain ⟨a', b', h1, h2, h3⟩ := zipD_get (xs := xs) (ys := ys) (i := i) (by simpa [zipD] using h)
    exact ⟨a', b', by simpa using h1, by simpa using h2, h3⟩
theorem zipD_len : ∀ {xs ys : List D}, (zipD xs ys).length = min xs.length ys.length
  | [], _ => by simp [zipD]
  | _ :: _, [] => by simp [zipD]
  | a :: xs, b :: ys => by simp [zipD, zipD_len]
def pZip (q : Ev → Rs (List D)) : Ev → Rs (List D) := fun ρ => (q ρ).bind fun ds => match ds with | [d, e] => (match itemsL d, itemsL e with | some xs, some ys => .ok (zipD xs ys) | _, _ => .no) | _ => .no
theorem src_zip {F : Hp} {a b : Addr} {vs us : List V} {ds es : List D} (h : SqL E.K F a vs) (r : RepL E F ds vs) (h' : SqL E.K F b us) (r' : RepL E F es us) : Src E F (Itz E.K a b) (zipD ds es) := by
  refine ⟨_, _, walk_zip (by rw [zipD_len, r.len, r'.len]), fun H2 s => ⟨sqL_mono s h, sqL_mono s h'⟩, fun i H2 x H3 F2 d e s1 s2 y => ?_⟩
  obtain ⟨T, x1, y1, e1, e2, e3, e4, e5⟩ := y
  obtain ⟨d1, d2, f1, f2, f3⟩ := zipD_get e
  obtain ⟨q1, g1, g2⟩ := r.getV e4
  obtain ⟨q2, g3, g4⟩ := r'.getV e5
  rw [f1] at g1; cases g1
  rw [f2] at g3; cases g3
  subst f3
  exact src_pair s2 e2 e3 e1 (Rep.mono s1 _ _ g2) (Rep.mono s1 _ _ g4)
theorem xi_zip {e e2 : Expr} {p pos tpos : Pos} {elts : List Expr} {kk : Nat} {q : Ev → Rs (List D)} (c : Ctx X E W k) (hg : ∀ i, Gl (X i) "zip") (hm : ∀ i, (X i).mg "zip" = none) (ha : XA X E W [e, e2] q) (hs : ∀ i, starEach [e, e2] (X i).env = (false, eval e (X i).env) :: starEach [e2] (X i).env := by intro _; rfl) (hpl : ∀ i, (backTo pos (starEach [e2] (X i).env)).any (·.1) = false := by intro _; rfl) :
    XI X E W (.Tuple elts kk tpos) (.Call (.Name "zip" p) [e, e2] [] pos) (pZip q) := by
  obtain ⟨t, h1, h2⟩ := ha
  refine ⟨iZip E.K t, fun i => by rw [← c.K i]; exact pi_zip (hg i) (hm i) (h1 i) (hs i) (hpl i), fun B F H σ ρ Q s sb r post => ?_⟩
  show t σ H _
  refine Evals.seq h2 s sb r post fun F1 H1 ds vs e1 x1 sb1 r1 gg post1 => ?_
  split at post1
  · split at post1
    · rename_i d e xs ys ed ee
      obtain ⟨v, r', rfl, g1, g2⟩ := gg
      obtain ⟨v', r'', rfl, g3, g4⟩ := g2
      cases g4
      obtain ⟨a, us, rfl, q1, q2⟩ := repO_list (F := F1) (H := F1) (Same.refl F1) ed (.inl g1)
      obtain ⟨b, ws, rfl, q3, q4⟩ := repO_list (F := F1) (H := F1) (Same.refl F1) ee (.inl g3)
      exact ⟨a, b, us, ws, rfl, sqL_mono x1.fh q1, sqL_mono x1.fh q3, ev_ok x1.fh post1 (src_zip q1 q2 q3 q4)⟩
    · exact post1.elim
  · exact post1.elim
end
end DL
end

section
set_option linter.all false
set_option maxRecDepth 100000
set_option maxHeartbeats 4000000
namespace DL
open PySem PySem.Spec L2
/-- nothing may fly -/
abbrev W0 : WX := fun _ _ _ _ => False

/-! ## comprehensions -/
def wipeE (ρ : Ev) : List Nat → Ev
  | [] => ρ
  | v :: vs => (wipeE ρ vs).set v .unb
theorem StR.wipe {E : Am} {B F H : Hp} {σ : L2.St} {ρ : Ev} (s : StR E B F H σ ρ) : ∀ vs : List Nat, StR E B F H (L2.wipe σ vs) (wipeE ρ vs)
  | [] => s
  | v :: vs => (StR.wipe s vs).setU
theorem wipe_get {σ : L2.St} {j : Nat} : ∀ {vs : List Nat}, j ∉ vs → (L2.wipe σ vs)[j]? = σ[j]?
  | [], _ => rfl
  | v :: vs, h => by
    show ((L2.wipe σ vs).set v none)[j]? = σ[j]?
    rw [List.getElem?_set_ne (fun z => h (by rw [z]; exact List.mem_cons_self)), wipe_get fun z => h (List.mem_cons_of_mem _ z)]
theorem wipe_in {σ : L2.St} {j : Nat} : ∀ {vs : List Nat}, j ∈ vs → (L2.wipe σ vs)[j]? = if j < σ.length then some none else none
  | [], h => by simp at h
  | v :: vs, h => by
    show ((L2.wipe σ vs).set v none)[j]? = _
    by_cases q : v = j
    · subst q
      by_cases hl : v < σ.length
      · rw [List.getElem?_set_self (by rw [wipe_length]; exact hl), if_pos hl]
      · rw [if_neg hl, List.getElem?_eq_none (by rw [List.length_set, wipe_length]; omega)]
    · rw [List.getElem?_set_ne q]
      exact wipe_in (by rcases List.mem_cons.mp h with z | z; exact absurd z.symm q; exact z)
theorem wipe_same {σ σ' : L2.St} {vs : List Nat} (hl : σ'.length = (L2.wipe σ vs).length) (h : ∀ j, j ∉ vs → σ'[j]? = (L2.wipe σ vs)[j]?) : L2.wipe σ' vs = L2.wipe σ vs := by
  apply List.ext_getElem?
  intro j
  rw [wipe_length] at hl
  by_cases q : j ∈ vs
  · rw [wipe_in q, wipe_in q, hl]
  · rw [wipe_get q, h j q]
def lcL (g : D → Ev → Option Ev) (pt : Ev → Rs Bool) (pe : Ev → Rs D) (ρ : Ev) : List D → Option (List D)
  | [] => some []
  | d :: ds => match g d ρ with
    | none => none
    | some ρ1 => match pt ρ1 with
      | .ok true => (match pe ρ1 with
        | .ok x => (lcL g pt pe ρ ds).map (x :: ·)
        | _ => none)
      | .ok false => lcL g pt pe ρ ds
      | _ => none
def pLc (ps : Ev → Rs (List D)) (g : D → Ev → Option Ev) (pt : Ev → Rs Bool) (pe : Ev → Rs D) (vs : List Nat) : Ev → Rs D := fun ρ =>
  (ps ρ).bind fun ds => if ds.length ≤ sizeLine then (match lcL g pt pe (wipeE ρ vs) ds with | some r => .ok (.lst r) | none => .no) else .no
/-- the contexts of the block -/
def Blk {I : Type} (X : I → Cx) (scope : Scope) : I × Shared × Hp × Addr × List (Str × Addr) × List Addr → Cx := fun j => (X j.1).blk j.2.1 j.2.2.1 scope (compEnvC scope j.2.2.2.2.1 j.2.2.2.1 (X j.1).env) j.2.2.2.2.2
def XTs {I : Type} (X : I → Cx) (E : Am) (W : WX) (ifs : List Expr) (p : Ev → Rs Bool) : Prop := ∃ t, (∀ i, PTs (X i) ifs t) ∧ Evals E W GB t p
def pYes : Ev → Rs Bool := fun _ => .ok true
section
variable {I : Type} {X : I → Cx} {E : Am} {W : WX} {k : Nat}
theorem Ctx.blk (c : Ctx X E W k) (scope : Scope) : Ctx (Blk X scope) E W0 k :=
  ⟨fun j => c.K j.1, fun j => c.calm j.1, fun j => c.room j.1, fun _ => takes0, fun _ => PassesOwn.never⟩
theorem xts_nil : XTs X E W [] pYes := ⟨_, fun _ => pts_nil, fun B F H σ ρ Q s sb r post => ev_ok s post rfl⟩
theorem xts_one {e : Expr} {p : Ev → Rs Bool} (h : XT X E W e p) : XTs X E W [e] p := by
  obtain ⟨t, h1, h2⟩ := h
  exact ⟨t, fun i => pts_one (h1 i), h2⟩
theorem rs_post {α β : Type} {E : Am} {W : WX} {σ : L2.St} {F H : Hp} {G : Hp → Hp → α → β → Prop} {Q : β → Hp → Prop} {r : Rs α} {a : α} (e : r = .ok a) (h : ∀ F' H' b, Ext F H F' H' → G F' H' a b → Q b H') : Post E W σ F H G Q r := by
  rw [e]; exact h
/-- a comprehension's parts and what it makes -/
def XLc {I : Type} (X : I → Cx) (E : Am) (W : WX) (elt tg iter : Expr) (ifs : List Expr) (scope : Scope) (own : List (Str × Nat)) (p : Ev → Rs D) : Prop := ∃ (wi : TI) (g : TG) (tt : TT) (te : TE),
  (∀ i, PI (X i) tg iter wi) ∧ (∀ j, PG (Blk X scope j) tg g) ∧ (∀ j, PTs (Blk X scope j) ifs tt) ∧ (∀ j, PE (Blk X scope j) elt te) ∧ Evals E W (GN E) (tLc wi g tt te (own.map (·.2))) p
theorem xlc {elt tg iter : Expr} {ifs : List Expr} {scope : Scope} {own : List (Str × Nat)} {ps : Ev → Rs (List D)} {g : D → Ev → Option Ev} {pt : Ev → Rs Bool} {pe : Ev → Rs D} {vs : List Nat} (c : Ctx X E W k)
    (hi : XI X E W tg iter ps) (hg : XG (Blk X scope) E tg vs g) (hv : ∀ j ∈ vs, j ∈ own.map (·.2)) (ht : XTs (Blk X scope) E W0 ifs pt) (he : XE (Blk X scope) E W0 elt pe) : XLc X E W elt tg iter ifs scope own (pLc ps g pt pe (own.map (·.2))) := by
  obtain ⟨wi, i1, i2⟩ := hi
  obtain ⟨gg, g1, g2⟩ := hg
  obtain ⟨tt, t1, t2⟩ := ht
  obtain ⟨te, e1, e2⟩ := he
  refine ⟨wi, gg, tt, te, i1, g1, t1, e1, ?_⟩
  intro B F H σ ρ Q s sb r post
  show wi σ H _
  refine Evals.seq (G2 := fun F' H' a b => GN E H F' H' a b) i2 s sb r post fun F1 H1 ds J _ x1 sb1 r1 src post1 => ?_
  by_cases cz : ds.length ≤ sizeLine
  · rw [if_pos cz] at post1
    cases el : lcL g pt pe (wipeE ρ (own.map (·.2))) ds with
    | none => rw [el] at post1; exact post1.elim
    | some fin =>
      rw [el] at post1
      intro D hD
      obtain ⟨G, Y, wk, hG, hY⟩ := src
      have hF1D : F1 D = none := x1.fh.free hD
      refine lc_it wk (Pv := fun i H' => ∃ F' acc accD rest, Ext F1 H1 F' H' ∧ H' D = some (.lst acc) ∧ F' D = none ∧ RepL E F' accD acc ∧ acc.length ≤ i ∧ lcL g pt pe (wipeE ρ (own.map (·.2))) (ds.drop i) = some rest ∧ accD ++ rest = fin)
        ⟨F1, [], [], fin, Ext.newH x1.fh hD, upd_same, hF1D, rfl, Nat.le_refl _, by rw [List.drop_zero]; exact el, rfl⟩ (fun i H' _ ⟨F', _, _, _, x, _⟩ => hG H' (x.f.trans x.fh)) ?_ ?_
      · rintro i x H2 H3 hin ⟨F2, acc, accD, rest, x2, hD2, hF2, ra, hal, hrest, hfin⟩ y
        have hd : ds[i]? = some ds[i] := List.getElem?_eq_getElem hin
        obtain ⟨F3, x3, rx⟩ := hY i H2 x H3 F2 _ hd x2.f x2.fh y
        have x13 := x2.trans x3
        have hD3 : H3 D = some (.lst acc) := x3.h _ _ hD2
        have hF3 : F3 D = none := by rw [x3.nf D (by rw [hD2]; simp)]; exact hF2
        have r3 : StR E B F3 H3 (L2.wipe σ (own.map (·.2))) (wipeE ρ (own.map (·.2))) := (r1.mono x13).wipe _
        have sb3 : Same B H3 := sb1.trans x13.h
        rw [List.drop_eq_getElem_cons hin] at hrest
        unfold lcL at hrest
        split at hrest
        · cases hrest
        · rename_i ρ1 eg
          refine g2 B F3 H3 _ _ ds[i] x _ ρ1 x3.fh r3 rx eg fun σ2 r4 hl4 hk4 => ?_
          refine ⟨wipe_same hl4 fun j hj => hk4 j fun z => hj (hv j z), ?_⟩
          split at hrest
          · rename_i ept
            refine t2 B F3 H3 σ2 ρ1 _ x3.fh sb3 r4 (rs_post ept fun F4 H4 b x4 gb => ?_)
            cases gb
            rw [if_pos rfl]
            split at hrest
            · rename_i xd epe
              obtain ⟨rest', hr1, hr2⟩ := Option.map_eq_some_iff.mp hrest
              refine e2 B F4 H4 σ2 ρ1 _ x4.fh (sb3.trans x4.h) (r4.mono x4) (rs_post epe fun F5 H5 v x5 gv => ?_)
              have x15 := (x13.trans x4).trans x5
              have hD5 : H5 D = some (.lst acc) := x5.h _ _ (x4.h _ _ hD3)
              have hF5 : F5 D = none := by rw [(x4.trans x5).nf D (by rw [hD3]; simp)]; exact hF3
              refine ⟨acc, hD5, by omega, F5, acc ++ [v], accD ++ [xd], rest', x15.wr hF5 hD, upd_same, hF5, ?_, by rw [List.length_append]; simp; omega, hr1, by rw [← hfin, ← hr2]; simp⟩
              exact (RepL.mono ((x3.trans (x4.trans x5)).f) _ _ ra).append (.cons gv rfl)
            · cases hrest
          · rename_i ept
            refine t2 B F3 H3 σ2 ρ1 _ x3.fh sb3 r4 (rs_post ept fun F4 H4 b x4 gb => ?_)
            cases gb
            rw [if_neg Bool.false_ne_true]
            exact ⟨F4, acc, accD, rest, x13.trans x4, x4.h _ _ hD3, by rw [x4.nf D (by rw [hD3]; simp)]; exact hF3, RepL.mono (x3.trans x4).f _ _ ra, by omega, hrest, hfin⟩
          · cases hrest
      · rintro H2 ⟨F2, acc, accD, rest, x2, hD2, hF2, ra, hal, hrest, hfin⟩
        rw [List.drop_length] at hrest
        cases hrest
        rw [List.append_nil] at hfin
        subst hfin
        exact post1 F2 H2 _ x2 ⟨D, _, rfl, x1.h.free hD, hF2, hD2, acc, rfl, ra⟩
  · rw [if_neg cz] at post1; exact post1.elim
theorem xn_lc {elt tg iter : Expr} {ifs : List Expr} {scope : Scope} {own : List (Str × Nat)} {pos : Pos} {p : Ev → Rs D} (c : Ctx X E W k) (hN : ∀ i, (X i).N.Nodup) (h : XLc X E W elt tg iter ifs scope own p) (ok : ∀ i, BlkOk (X i).N (X i).env.scope scope own)
    (hs : ∀ i x, foldedSetIterable iter (X i).env x = pure x := by intro _ _; rfl) : XN X E W (.ListComp elt [⟨tg, iter, ifs, 0⟩] scope pos) p := by
  obtain ⟨wi, g, tt, te, h1, h2, h3, h4, h5⟩ := h
  exact ⟨_, fun i => pe_lc (c.calm i) (hN i) (h1 i) (ok i) (fun s H C cl fp => h2 (i, s, H, C, cl, fp)) (fun s H C cl fp => h3 (i, s, H, C, cl, fp)) (fun s H C cl fp => h4 (i, s, H, C, cl, fp)) (hs i), h5⟩
end

/-! ## statements -/
inductive Fl where
  | nx (ρ : Ev) | rt (d : D) | bk (ρ : Ev) | ct (ρ : Ev) | err (c : Str) (x : Option (Str × D)) (ρ : Ev) | no
def PostS (E : Am) (W : WX) (F0 B : Hp) (Dn : Ends) : Fl → Prop
  | .nx ρ => ∀ F' H' σ', Ext F0 B F' H' → StR E B F' H' σ' ρ → Dn.nx σ' H'
  | .bk ρ => ∀ F' H' σ', Ext F0 B F' H' → StR E B F' H' σ' ρ → Dn.bk σ' H'
  | .ct ρ => ∀ F' H' σ', Ext F0 B F' H' → StR E B F' H' σ' ρ → Dn.ct σ' H'
  | .rt d => ∀ F' H' v, Ext F0 B F' H' → Rep E F' d v → Dn.rt v H'
  | .err c x ρ => ∀ F' H' σ' cls dd, Ext F0 B F' H' → StR E B F' H' σ' ρ → ErrP E F' H' c x cls dd → W cls dd σ' H'
  | .no => False
def Does (E : Am) (W : WX) (t : TS) (p : Ev → Fl) : Prop :=
  ∀ (F0 B F H : Hp) (σ : L2.St) (ρ : Ev) (Dn : Ends), Ext F0 B F H → StR E B F H σ ρ → PostS E W F0 B Dn (p ρ) → t Dn σ H
def XS {I : Type} (X : I → Cx) (E : Am) (W : WX) (st : Stmt) (p : Ev → Fl) : Prop := ∃ t, (∀ i, PS (X i) st t) ∧ Does E W t p
def XSs {I : Type} (X : I → Cx) (E : Am) (W : WX) (st : List Stmt) (p : Ev → Fl) : Prop := ∃ t, (∀ i, PSs (X i) st t) ∧ Does E W t p
def pSeq (p q : Ev → Fl) : Ev → Fl := fun ρ => match p ρ with | .nx ρ1 => q ρ1 | r => r
def pNext : Ev → Fl := .nx
section
variable {I : Type} {X : I → Cx} {E : Am} {W : WX} {k : Nat}
theorem xss_nil : XSs X E W [] pNext := ⟨_, fun _ => pss_nil, fun F0 B F H σ ρ Dn x r post => post F H σ x r⟩
theorem xss_one {s : Stmt} {p : Ev → Fl} (h : XS X E W s p) : XSs X E W [s] p := by
  obtain ⟨t, h1, h2⟩ := h
  exact ⟨t, fun i => pss_one (h1 i), h2⟩
theorem xss_cons {s : Stmt} {rest : List Stmt} {p q : Ev → Fl} (h : XS X E W s p) (h' : XSs X E W rest q) : XSs X E W (s :: rest) (pSeq p q) := by
  obtain ⟨t, h1, h2⟩ := h
  obtain ⟨u, g1, g2⟩ := h'
  refine ⟨_, fun i => pss_cons (h1 i) (g1 i), fun F0 B F H σ ρ Dn x r post => ?_⟩
  refine h2 F0 B F H σ ρ _ x r ?_
  unfold pSeq at post
  cases e : p ρ with
  | nx ρ1 => rw [e] at post; exact fun F' H' σ' x' r' => g2 F0 B F' H' σ' ρ1 Dn x' r' post
  | rt d => rw [e] at post; exact post
  | bk ρ1 => rw [e] at post; exact post
  | ct ρ1 => rw [e] at post; exact post
  | err c z ρ1 => rw [e] at post; exact post
  | no => rw [e] at post; exact post
/-- behind an evaluation -/
def pWith {α : Type} (p : Ev → Rs α) (f : α → Ev → Fl) : Ev → Fl := fun ρ => match p ρ with | .ok a => f a ρ | .err c x => .err c x ρ | .no => .no
theorem Does.eval {α β : Type} {G : Hp → Hp → Hp → α → β → Prop} {t : L2.St → Hp → (β → Hp → Prop) → Prop} {p : Ev → Rs α} {f : α → Ev → Fl} {F0 B F H : Hp} {σ : L2.St} {ρ : Ev} {Dn : Ends} {K : β → Hp → Prop} (h : Evals E W G t p) (x : Ext F0 B F H) (r : StR E B F H σ ρ) (post : PostS E W F0 B Dn (pWith p f ρ))
    (step : ∀ F1 H1 a b, Ext F H F1 H1 → Ext F0 B F1 H1 → StR E B F1 H1 σ ρ → G H F1 H1 a b → PostS E W F0 B Dn (f a ρ) → K b H1) : t σ H K := by
  refine h B F H σ ρ K x.fh x.h r ?_
  unfold pWith at post
  cases e : p ρ with
  | ok a => rw [e] at post; exact fun F1 H1 b x1 g => step F1 H1 a b x1 (x.trans x1) (r.mono x1) g post
  | err c z => rw [e] at post; exact fun F1 H1 cls dd x1 g => post F1 H1 σ cls dd (x.trans x1) (r.mono x1) g
  | no => rw [e] at post; exact post
end
end DL
end

section
set_option linter.all false
set_option maxRecDepth 100000
set_option maxHeartbeats 4000000
namespace DL
open PySem PySem.Spec L2
section
variable {I : Type} {X : I → Cx} {E : Am} {W : WX} {k : Nat}

/-! ## assignments -/
def pSet (i : Nat) (p : Ev → Rs D) : Ev → Fl := pWith p fun d ρ => .nx (ρ.set i (.dat d))
def pSetO (i : Nat) (p : Ev → Rs D) : Ev → Fl := pWith p fun d ρ => .nx (ρ.set i (.own d))
theorem does_set {i : Nat} {t : TE} {p : Ev → Rs D} (h : Evals E W (GS E) t p) : Does E W (tAsg t (gName i)) (pSet i p) := by
  intro F0 B F H σ ρ Dn x r post
  show t σ H _
  exact Does.eval h x r post fun F1 H1 d v x1 x2 r2 g post1 => post1 F1 H1 _ x2 (r2.setD g)
theorem does_setO {i : Nat} {t : TE} {p : Ev → Rs D} (h : Evals E W (GN E) t p) : Does E W (tAsg t (gName i)) (pSetO i p) := by
  intro F0 B F H σ ρ Dn x r post
  show t σ H _
  refine Does.eval h x r post fun F1 H1 d v x1 x2 r2 g post1 => ?_
  obtain ⟨l, ho, rfl, h0, h1, h2, h3⟩ := g
  refine post1 F1 H1 _ x2 (r2.setO h2 h1 (x.h.free h0) h3 fun j e hj _ hs => ?_)
  obtain ⟨l', ho', q1, q2, _⟩ := r.own j e hj
  rw [hs] at q1
  cases q1
  rw [h0] at q2
  cases q2
/-- a name's place -/
structure Nm {I : Type} (X : I → Cx) (i : Nat) (x : Str) : Prop where
  nd : ∀ j, (X j).N.Nodup
  at_ : ∀ j, (X j).N[i]? = some x
  loc : ∀ j, Loc (X j).env.scope x
  fn : ∀ j, (X j).fn x = true ∨ (X j).env.scope.names.lookup x = some .local
theorem xs_set {i : Nat} {x : Str} {e : Expr} {p : Ev → Rs D} {pos pos' : Pos} (n : Nm X i x) (h : XE X E W e p) (hs : ∀ j, swapsWith e (some (.Name x pos')) pos.line (X j).env = pure false := by intro _; rfl) : XS X E W (.Assign [.Name x pos'] e pos) (pSet i p) := by
  obtain ⟨t, h1, h2⟩ := h
  exact ⟨_, fun j => ps_set (n.nd j) (n.at_ j) (n.loc j) (h1 j) (hs j) (n.fn j), does_set h2⟩
theorem xs_setO {i : Nat} {x : Str} {e : Expr} {p : Ev → Rs D} {pos pos' : Pos} (n : Nm X i x) (h : XN X E W e p) (hs : ∀ j, swapsWith e (some (.Name x pos')) pos.line (X j).env = pure false := by intro _; rfl) : XS X E W (.Assign [.Name x pos'] e pos) (pSetO i p) := by
  obtain ⟨t, h1, h2⟩ := h
  exact ⟨_, fun j => ps_set (n.nd j) (n.at_ j) (n.loc j) (h1 j) (hs j) (n.fn j), does_setO h2⟩
/-- name = [.. for ..] -/
theorem lc_ps {i : Nat} {y : Str} {py : Pos} {elt tg iter : Expr} {ifs : List Expr} {scope : Scope} {own : List (Str × Nat)} {pos spos : Pos} {wi : TI} {g : TG} {tt : TT} {te : TE} (c : Ctx X E W k) (n : Nm X i y) (hyl : ∀ j, (X j).env.scope.names.lookup y = some .local)
    (h1 : ∀ i, PI (X i) tg iter wi) (h2 : ∀ j, PG (Blk X scope j) tg g) (h3 : ∀ j, PTs (Blk X scope j) ifs tt) (h4 : ∀ j, PE (Blk X scope j) elt te) (ok : ∀ i, BlkOk (X i).N (X i).env.scope scope own)
    (hsw : ∀ j, swapsWith (.ListComp elt [⟨tg, iter, ifs, 0⟩] scope pos) (some (.Name y py)) spos.line (X j).env = pure true) (hs : ∀ i x, foldedSetIterable iter (X i).env x = pure x := by intro _ _; rfl) :
    ∀ j, PS (X j) (.Assign [.Name y py] (.ListComp elt [⟨tg, iter, ifs, 0⟩] scope pos) spos) (tAsg (tLc wi g tt te (own.map (·.2))) (gName i)) := fun j =>
  ps_setLc (c.calm j) (n.nd j) (n.at_ j) (hyl j) (hsw j) (h1 j) (ok j) (fun s H C cl fp => h2 (j, s, H, C, cl, fp)) (fun s H C cl fp => h3 (j, s, H, C, cl, fp)) (fun s H C cl fp => h4 (j, s, H, C, cl, fp)) (hs j)
theorem xs_setLc {i : Nat} {y : Str} {py : Pos} {elt tg iter : Expr} {ifs : List Expr} {scope : Scope} {own : List (Str × Nat)} {pos spos : Pos} {p : Ev → Rs D} (c : Ctx X E W k) (n : Nm X i y) (hyl : ∀ j, (X j).env.scope.names.lookup y = some .local) (h : XLc X E W elt tg iter ifs scope own p) (ok : ∀ i, BlkOk (X i).N (X i).env.scope scope own)
    (hsw : ∀ j, swapsWith (.ListComp elt [⟨tg, iter, ifs, 0⟩] scope pos) (some (.Name y py)) spos.line (X j).env = pure true) (hs : ∀ i x, foldedSetIterable iter (X i).env x = pure x := by intro _ _; rfl) :
    XS X E W (.Assign [.Name y py] (.ListComp elt [⟨tg, iter, ifs, 0⟩] scope pos) spos) (pSet i p) := by
  obtain ⟨wi, g, tt, te, h1, h2, h3, h4, h5⟩ := h
  exact ⟨_, lc_ps c n hyl h1 h2 h3 h4 ok hsw hs, does_set h5.frz⟩
theorem xs_setLcO {i : Nat} {y : Str} {py : Pos} {elt tg iter : Expr} {ifs : List Expr} {scope : Scope} {own : List (Str × Nat)} {pos spos : Pos} {p : Ev → Rs D} (c : Ctx X E W k) (n : Nm X i y) (hyl : ∀ j, (X j).env.scope.names.lookup y = some .local) (h : XLc X E W elt tg iter ifs scope own p) (ok : ∀ i, BlkOk (X i).N (X i).env.scope scope own)
    (hsw : ∀ j, swapsWith (.ListComp elt [⟨tg, iter, ifs, 0⟩] scope pos) (some (.Name y py)) spos.line (X j).env = pure true) (hs : ∀ i x, foldedSetIterable iter (X i).env x = pure x := by intro _ _; rfl) :
    XS X E W (.Assign [.Name y py] (.ListComp elt [⟨tg, iter, ifs, 0⟩] scope pos) spos) (pSetO i p) := by
  obtain ⟨wi, g, tt, te, h1, h2, h3, h4, h5⟩ := h
  exact ⟨_, lc_ps c n hyl h1 h2 h3 h4 ok hsw hs, does_setO h5⟩
/-- target = e -/
def pAsg (g : D → Ev → Option Ev) (p : Ev → Rs D) : Ev → Fl := pWith p fun d ρ => match g d ρ with | some ρ1 => .nx ρ1 | none => .no
theorem xs_asg {tg e : Expr} {vs : List Nat} {g : D → Ev → Option Ev} {p : Ev → Rs D} {pos : Pos} (h : XE X E W e p) (hg : XG X E tg vs g) (hs : ∀ j, swapsWithSole [tg] e pos.line (X j).env = pure false := by intro _; rfl) (hw : ∀ j, swappedStores [tg] e (X j).env = pure none := by intro _; rfl)
    (h1 : ∀ j, (assignEach [tg] (X j).env).map (·.2) = [assign tg (X j).env] := by intro _; rfl) : XS X E W (.Assign [tg] e pos) (pAsg g p) := by
  obtain ⟨t, t1, t2⟩ := h
  obtain ⟨gg, g1, g2⟩ := hg
  refine ⟨_, fun j => ps_asg (t1 j) (g1 j) (hs j) (hw j) (h1 j), fun F0 B F H σ ρ Dn x r post => ?_⟩
  show t σ H _
  refine Does.eval t2 x r post fun F1 H1 d v x1 x2 r2 g post1 => ?_
  cases e : (‹D → Ev → Option Ev›) d ρ with
  | none => rw [e] at post1; exact post1.elim
  | some ρ1 =>
    rw [e] at post1
    exact g2 B F1 H1 σ ρ d v _ ρ1 x2.fh r2 g e fun σ' r' _ _ => post1 F1 H1 σ' x2 r'
/-- a, b = x, y -/
def pPar (i j : Nat) (q : Ev → Rs (List D)) : Ev → Fl := pWith q fun ds ρ => match ds with | [d, e] => .nx ((ρ.set i (.dat d)).set j (.dat e)) | _ => .no
theorem xs_par {i j : Nat} {x y : Str} {a b : Expr} {q : Ev → Rs (List D)} {px py pt pos : Pos} {kt k2 : Nat} {pt2 : Pos} (c : Ctx X E W k) (nx : Nm X i x) (ny : Nm X j y) (hij : i ≠ j) (lx : ∀ i, (X i).env.scope.names.lookup x = some .local) (ly : ∀ i, (X i).env.scope.names.lookup y = some .local) (h : XA X E W [a, b] q)
    (hw : ∀ i, swappedStores [.Tuple [.Name x px, .Name y py] kt pt] (.Tuple [a, b] k2 pt2) (X i).env = pure (some [x, y]) := by intro _; rfl) (hs : ∀ i, swapsWithSole [.Tuple [.Name x px, .Name y py] kt pt] (.Tuple [a, b] k2 pt2) pos.line (X i).env = pure false := by intro _; rfl) :
    XS X E W (.Assign [.Tuple [.Name x px, .Name y py] kt pt] (.Tuple [a, b] k2 pt2) pos) (pPar i j q) := by
  obtain ⟨t, t1, t2⟩ := h
  refine ⟨_, fun l => ps_par (c.calm l) (nx.nd l) (nx.at_ l) (ny.at_ l) hij (lx l) (ly l) (t1 l) (hw l) (hs l), fun F0 B F H σ ρ Dn x r post => ?_⟩
  show t σ H _
  refine Does.eval t2 x r post fun F1 H1 ds vs x1 x2 r2 g post1 => ?_
  split at post1
  · obtain ⟨v, r', rfl, g1, w, r'', rfl, g2, g3⟩ := g
    cases g3
    exact ⟨v, w, rfl, post1 F1 H1 _ x2 ((r2.setD g1).setD g2)⟩
  · exact post1.elim
/-- name op= e -/
def pAug (f : D → D → Rs D) (i : Nat) (p : Ev → Rs D) : Ev → Fl := fun ρ => match ρ[i]? with
  | some (.dat d0) => pWith p (fun d ρ => match f d0 d with | .ok z => .nx (ρ.set i (.dat z)) | _ => .no) ρ
  | _ => .no
theorem xs_aug {i : Nat} {x : Str} {e : Expr} {op : Operator} {r : R2} {f : D → D → Rs D} {p : Ev → Rs D} {pos pos' : Pos} (n : Nm X i x) (ho : ∀ j, OpR (X j) (inplaceOp op) r) (hf : OpS E r f) (h : XL X E W e p) : XS X E W (.AugAssign (.Name x pos') op e pos) (pAug f i p) := by
  obtain ⟨t, t1, t2⟩ := h
  refine ⟨tAug i t r, fun j => ps_aug (n.nd j) (n.at_ j) (n.loc j) (t1 j) (fun pins s σ H x y v u Q I r1 r2 h => ho j pins s σ H x y v u Q I r1 r2 h) (n.fn j), fun F0 B F H σ ρ Dn x rr post => ?_⟩
  unfold pAug at post
  split at post
  · rename_i d0 e0
    obtain ⟨v0, s1, s2⟩ := rr.dat i d0 e0
    refine ⟨v0, s1, ?_⟩
    refine Does.eval t2 x rr post fun F1 H1 d v x1 x2 r2 g post1 => ?_
    refine hf W F1 H1 σ d0 d v0 v _ x2.fh (.inl (Rep.mono x1.f _ _ s2)) g ?_
    cases ef : f d0 d with
    | ok z =>
      rw [ef] at post1
      exact fun F2 H2 w x3 g3 => post1 F2 H2 _ (x2.trans x3) ((r2.mono x3).setD g3)
    | err c z => rw [ef] at post1; exact post1.elim
    | no => rw [ef] at post1; exact post1.elim
  · exact post.elim
def rIAddA : R2 := fun x y H Q => rI0 (fun i j => .int (i + j)) x y H Q ∨ (∃ i j, x = .str i ∧ y = .str j ∧ i.length + j.length ≤ sizeLine ∧ Q (.str (i ++ j)) H)
def fIAdd : D → D → Rs D
  | .int i, .int j => .ok (.int (i + j))
  | .str x, .str y => if x.length + y.length ≤ sizeLine then .ok (.str (x ++ y)) else .no
  | _, _ => .no
theorem ops_iadd : OpS E rIAddA fIAdd := by
  intro W F H σ dx dy x y Q s h1 h2 post
  unfold fIAdd at post
  split at post
  · exact .inl ⟨_, _, repO_int h1, repO_int h2, ev_ok s post rfl⟩
  · rename_i i j
    by_cases c : i.length + j.length ≤ sizeLine
    · rw [if_pos c] at post
      exact .inr ⟨_, _, repO_str h1, repO_str h2, c, ev_ok s post rfl⟩
    · rw [if_neg c] at post; exact post.elim
  · exact post.elim
theorem xs_iadd {i : Nat} {x : Str} {e : Expr} {p : Ev → Rs D} {pos pos' : Pos} (n : Nm X i x) (h : XL X E W e p) : XS X E W (.AugAssign (.Name x pos') .Add e pos) (pAug fIAdd i p) := xs_aug n (fun _ => iop_add.or iop_add_str) ops_iadd h

/-! ## small statements -/
def pRet (p : Ev → Rs D) : Ev → Fl := pWith p fun d _ => .rt d
theorem xs_ret {e : Expr} {p : Ev → Rs D} {pos : Pos} (h : XE X E W e p) : XS X E W (.Return (some e) pos) (pRet p) := by
  obtain ⟨t, t1, t2⟩ := h
  refine ⟨_, fun j => ps_ret (t1 j), fun F0 B F H σ ρ Dn x r post => ?_⟩
  show t σ H _
  exact Does.eval t2 x r post fun F1 H1 d v x1 x2 r2 g post1 => post1 F1 H1 v x2 g
theorem xs_retN {pos : Pos} : XS X E W (.Return none pos) (fun _ => .rt .non) := ⟨_, fun j => ps_retN, fun F0 B F H σ ρ Dn x r post => post F H _ x rfl⟩
def pDrop (p : Ev → Rs D) : Ev → Fl := pWith p fun _ ρ => .nx ρ
theorem xs_expr {e : Expr} {p : Ev → Rs D} {pos : Pos} (h : XE X E W e p) (hs : ∀ j, swapsWith e none pos.line (X j).env = pure false := by intro _; rfl) : XS X E W (.Expr e pos) (pDrop p) := by
  obtain ⟨t, t1, t2⟩ := h
  refine ⟨_, fun j => ps_expr (t1 j) (hs j), fun F0 B F H σ ρ Dn x r post => ?_⟩
  show t σ H _
  exact Does.eval t2 x r post fun F1 H1 d v x1 x2 r2 g post1 => post1 F1 H1 σ x2 r2
theorem xs_pass {pos : Pos} : XS X E W (.Pass pos) pNext := ⟨_, fun j => ps_pass, fun F0 B F H σ ρ Dn x r post => post F H σ x r⟩
theorem xs_break {pos : Pos} : XS X E W (.Break pos) Fl.bk := ⟨_, fun j => ps_break, fun F0 B F H σ ρ Dn x r post => post F H σ x r⟩
theorem xs_continue {pos : Pos} : XS X E W (.Continue pos) Fl.ct := ⟨_, fun j => ps_continue, fun F0 B F H σ ρ Dn x r post => post F H σ x r⟩
def pIfS (c : Ev → Rs Bool) (p q : Ev → Fl) : Ev → Fl := pWith c fun b ρ => if b = true then p ρ else q ρ
theorem xs_if {e : Expr} {a b : List Stmt} {pc : Ev → Rs Bool} {p q : Ev → Fl} {pos : Pos} (hc : XT X E W e pc) (ha : XSs X E W a p) (hb : XSs X E W b q) : XS X E W (.If e a b pos) (pIfS pc p q) := by
  obtain ⟨t, t1, t2⟩ := hc
  obtain ⟨ta, a1, a2⟩ := ha
  obtain ⟨tb, b1, b2⟩ := hb
  refine ⟨_, fun j => ps_if (t1 j) (a1 j) (b1 j), fun F0 B F H σ ρ Dn x r post => ?_⟩
  show t σ H _
  refine Does.eval t2 x r post fun F1 H1 bb b' x1 x2 r2 g post1 => ?_
  cases g
  cases bb with
  | true => rw [if_pos rfl]; exact a2 F0 B F1 H1 σ ρ Dn x2 r2 post1
  | false => rw [if_neg Bool.false_ne_true]; exact b2 F0 B F1 H1 σ ρ Dn x2 r2 post1
/-- ghost: an own object is handed out from here on -/
def frzE (i : Nat) (ρ : Ev) : Ev := match ρ[i]? with | some (.own d) => ρ.set i (.dat d) | _ => ρ
theorem does_frz {i : Nat} {t : TS} {p : Ev → Fl} (h : Does E W t p) : Does E W t (fun ρ => p (frzE i ρ)) := by
  intro F0 B F H σ ρ Dn x r post
  have post : PostS E W F0 B Dn (p (frzE i ρ)) := post
  unfold frzE at post
  split at post
  · rename_i d e
    obtain ⟨l, ho, h1, h2, h3, h4⟩ := r.freeze e
    exact h F0 B _ H σ _ Dn (x.frz h1 h2 h3) h4 post
  · exact h F0 B F H σ ρ Dn x r post
theorem xss_frz (i : Nat) {sts : List Stmt} {p : Ev → Fl} (h : XSs X E W sts p) : XSs X E W sts (fun ρ => p (frzE i ρ)) := by
  obtain ⟨t, t1, t2⟩ := h
  exact ⟨t, t1, does_frz t2⟩
/-- xs.append(e), xs an own list -/
def pApp (i : Nat) (p : Ev → Rs D) : Ev → Fl := fun ρ => match ρ[i]? with
  | some (.own (.lst ds)) => pWith p (fun d ρ => if ds.length < sizeLine then .nx (ρ.set i (.own (.lst (ds ++ [d])))) else .no) ρ
  | _ => .no
theorem xs_app {i : Nat} {o e : Expr} {p : Ev → Rs D} {apos cpos pos : Pos} (c : Ctx X E W k) (ho : ∀ j, PE (X j) o (tVar i)) (h : XE X E W e p) (hbase : ∀ j, attributeBase o "append" (X j).env (eval o (X j).env) = eval o (X j).env := by intro _; rfl)
    (hfew : ∀ j, ((backTo cpos (starEach (e :: []) (X j).env)).all (fun x => !x.1) && (backToKw cpos (keywordEach [] (X j).env)).all (fun x => x.1.isSome) && decide ((e :: ([] : List Expr)).length + ([] : List Keyword).length + (if ([] : List Keyword).isEmpty then 0 else 1) < 30)) = true := by intro _; rfl)
    (hline : (apos.endLine == cpos.line) = true := by rfl) (hs : ∀ j, starEach (e :: []) (X j).env = (false, eval e (X j).env) :: starEach [] (X j).env := by intro _; rfl) (hplain : ∀ j, (backTo cpos (starEach [] (X j).env)).any (·.1) = false := by intro _; rfl)
    (hsw : ∀ j, swapsWith (.Call (.Attribute o "append" apos) [e] [] cpos) none pos.line (X j).env = pure false := by intro _; rfl) : XS X E W (.Expr (.Call (.Attribute o "append" apos) [e] [] cpos) pos) (pApp i p) := by
  obtain ⟨t, t1, t2⟩ := h
  refine ⟨tDrop (tBM E.K "list" rAppend (tVar i) (tCons t tNil)), fun j => by rw [← c.K j]; exact ps_expr (pe_bm PySem.F.plainAttrs_list PySem.F.slot_list_append PySem.F.type_list_append mt_append (ho j) (pa_cons (t1 j) pa_nil (hs j)) (hbase j) (hfew j) hline (hs j) (hplain j)) (hsw j), fun F0 B F H σ ρ Dn x r post => ?_⟩
  unfold pApp at post
  split at post
  · rename_i ds q
    obtain ⟨l, ho', s1, s2, s3, s4, vs, rfl, s5⟩ := r.own i _ q
    refine ⟨_, s1, .inl ⟨rfl, vs, SqL.of s2⟩, ?_⟩
    show t σ H _
    refine Does.eval t2 x r post fun F1 H1 d' v x1 x2 r2 g post1 => ?_
    by_cases cz : ds.length < sizeLine
    · rw [if_pos cz] at post1
      have hl1 : H1 l = some (.lst vs) := x1.h _ _ s2
      have hf1 : F1 l = none := by rw [x1.nf l (by rw [s2]; simp)]; exact s3
      refine ⟨l, vs, v, rfl, rfl, hl1, by rw [← s5.len]; exact cz, ?_⟩
      exact post1 F1 _ σ (x2.wr hf1 s4) (r2.write q s1 hf1 s4 ⟨_, rfl, (RepL.mono x1.f _ _ s5).append (.cons g rfl)⟩)
    · rw [if_neg cz] at post1; exact post1.elim
  · exact post.elim
end
end DL
end

section
set_option linter.all false
set_option maxRecDepth 100000
set_option maxHeartbeats 4000000
namespace DL
open PySem PySem.Spec L2
section
variable {I : Type} {X : I → Cx} {E : Am} {W : WX} {k : Nat}

theorem Ext.re {F0 B F H : Hp} (x : Ext F0 B F H) : Ext F B F H := ⟨Same.refl F, x.h, x.fh, fun _ _ => rfl⟩
theorem Ext.comp {F0 B F H F' H' : Hp} (x : Ext F0 B F H) (y : Ext F B F' H') : Ext F0 B F' H' := ⟨x.f.trans y.f, y.h, y.fh, fun l hl => (y.nf l hl).trans (x.nf l hl)⟩
theorem PostS.re {E : Am} {W : WX} {F0 B F H : Hp} {Dn : Ends} {r : Fl} (x : Ext F0 B F H) (h : PostS E W F0 B Dn r) : PostS E W F B Dn r := by
  cases r with
  | nx ρ => exact fun F' H' σ' y r' => h F' H' σ' (x.comp y) r'
  | bk ρ => exact fun F' H' σ' y r' => h F' H' σ' (x.comp y) r'
  | ct ρ => exact fun F' H' σ' y r' => h F' H' σ' (x.comp y) r'
  | rt d => exact fun F' H' v y r' => h F' H' v (x.comp y) r'
  | err c z ρ => exact fun F' H' σ' cls dd y r' e => h F' H' σ' cls dd (x.comp y) r' e
  | no => exact h
/-! ## for -/
def forL (g : D → Ev → Option Ev) (body : Ev → Fl) : List D → Ev → Fl
  | [], ρ => .nx ρ
  | d :: ds, ρ => match g d ρ with
    | none => .no
    | some ρ1 => match body ρ1 with
      | .nx ρ2 => forL g body ds ρ2
      | .ct ρ2 => forL g body ds ρ2
      | .bk ρ2 => .nx ρ2
      | .rt d => .rt d
      | .err c x ρ2 => .err c x ρ2
      | .no => .no
def pFor (ps : Ev → Rs (List D)) (g : D → Ev → Option Ev) (body : Ev → Fl) : Ev → Fl := pWith ps fun ds ρ => forL g body ds ρ
theorem xs_for {tg iter : Expr} {body : List Stmt} {pos : Pos} {ps : Ev → Rs (List D)} {vs : List Nat} {g : D → Ev → Option Ev} {pb : Ev → Fl} (c : Ctx X E W k) (hi : XI X E W tg iter ps) (hg : XG X E tg vs g) (hb : XSs X E W body pb)
    (hs : ∀ i x, foldedSetIterable iter (X i).env x = pure x := by intro _ _; rfl) : XS X E W (.For tg iter body [] pos) (pFor ps g pb) := by
  obtain ⟨wi, i1, i2⟩ := hi
  obtain ⟨gg, g1, g2⟩ := hg
  obtain ⟨tb, b1, b2⟩ := hb
  refine ⟨_, fun j => ps_for (c.po j) (c.calm j) (i1 j) (g1 j) (b1 j) (hs j), fun F0 B F H σ ρ Dn x r post => ?_⟩
  show wi σ H _
  refine Does.eval i2 x r post fun F1 H1 ds J x1 x2 r2 src post1 => ?_
  obtain ⟨G, Y, wk, hG, hY⟩ := src
  refine for_it wk (Pv := fun i σ' H' => ∃ F' ρ', Ext F0 B F' H' ∧ Same F1 F' ∧ StR E B F' H' σ' ρ' ∧ PostS E W F0 B Dn (forL g pb (ds.drop i) ρ'))
    ⟨F1, ρ, x2, Same.refl F1, r2, by rw [List.drop_zero]; exact post1⟩ (fun i σ' H' _ ⟨F', _, x', s', _⟩ => hG H' (s'.trans x'.fh)) ?_ ?_
  · rintro i y σ' H2 H3 hin ⟨F2, ρ2, x3, s3, r3, p3⟩ yy
    have hd : ds[i]? = some ds[i] := List.getElem?_eq_getElem hin
    obtain ⟨F3, x4, rx⟩ := hY i H2 y H3 F2 _ hd s3 x3.fh yy
    have x34 := x3.trans x4
    rw [List.drop_eq_getElem_cons hin] at p3
    unfold forL at p3
    split at p3
    · exact p3.elim
    · rename_i ρ3 eg
      refine g2 B F3 H3 σ' ρ2 ds[i] y _ ρ3 x4.fh (r3.mono x4) rx eg fun σ4 r4 _ _ => ?_
      refine b2 F3 B F3 H3 σ4 ρ3 _ x34.re r4 ?_
      cases eb : pb ρ3 with
      | nx ρ5 =>
        rw [eb] at p3
        exact fun F5 H5 σ5 x5 r5 => ⟨F5, ρ5, x34.comp x5, s3.trans (x4.f.trans x5.f), r5, p3⟩
      | ct ρ5 =>
        rw [eb] at p3
        exact fun F5 H5 σ5 x5 r5 => ⟨F5, ρ5, x34.comp x5, s3.trans (x4.f.trans x5.f), r5, p3⟩
      | bk ρ5 => rw [eb] at p3; exact fun F5 H5 σ5 x5 r5 => p3 F5 H5 σ5 (x34.comp x5) r5
      | rt d => rw [eb] at p3; exact fun F5 H5 v x5 r5 => p3 F5 H5 v (x34.comp x5) r5
      | err cc z ρ5 => rw [eb] at p3; exact fun F5 H5 σ5 cls dd x5 r5 e5 => p3 F5 H5 σ5 cls dd (x34.comp x5) r5 e5
      | no => rw [eb] at p3; exact p3
  · rintro σ' H2 ⟨F2, ρ2, x3, s3, r3, p3⟩
    rw [List.drop_length] at p3
    exact p3 F2 H2 σ' x3 r3

/-! ## while -/
def whL (c : Ev → Rs Bool) (body : Ev → Fl) : Nat → Ev → Fl
  | 0, _ => .no
  | n + 1, ρ => match c ρ with
    | .ok true => (match body ρ with
      | .nx ρ2 => whL c body n ρ2
      | .ct ρ2 => whL c body n ρ2
      | .bk ρ2 => .nx ρ2
      | .rt d => .rt d
      | .err c x ρ2 => .err c x ρ2
      | .no => .no)
    | .ok false => .nx ρ
    | .err c x => .err c x ρ
    | .no => .no
def pWhile (fuel : Ev → Nat) (c : Ev → Rs Bool) (body : Ev → Fl) : Ev → Fl := fun ρ => whL c body (fuel ρ) ρ
theorem xs_while {e : Expr} {body : List Stmt} {pos : Pos} {pc : Ev → Rs Bool} {pb : Ev → Fl} (fuel : Ev → Nat) (c : Ctx X E W k) (hc : XT X E W e pc) (hb : XSs X E W body pb) : XS X E W (.While e body [] pos) (pWhile fuel pc pb) := by
  obtain ⟨tc, c1, c2⟩ := hc
  obtain ⟨tb, b1, b2⟩ := hb
  refine ⟨_, fun j => ps_while (c.po j) (c1 j) (b1 j), fun F0 B F H σ ρ Dn x r post => ?_⟩
  refine ⟨fun m σ' H' => ∃ F' ρ', Ext F0 B F' H' ∧ StR E B F' H' σ' ρ' ∧ PostS E W F0 B Dn (whL pc pb m ρ'), ⟨fuel ρ, F, ρ, x, r, post⟩, ?_⟩
  rintro m σ' H' ⟨F', ρ', x', r', p'⟩
  cases m with
  | zero => exact (show False from p').elim
  | succ m =>
    unfold whL at p'
    show tc σ' H' _
    refine c2 B F' H' σ' ρ' _ x'.fh x'.h r' ?_
    cases ec : pc ρ' with
    | no => rw [ec] at p'; exact p'
    | err cc z => rw [ec] at p'; exact fun F1 H1 cls dd x1 g => p' F1 H1 σ' cls dd (x'.trans x1) (r'.mono x1) g
    | ok b =>
      rw [ec] at p'
      intro F1 H1 b' x1 g
      cases g
      cases b with
      | false => rw [if_neg Bool.false_ne_true]; exact p' F1 H1 σ' (x'.trans x1) (r'.mono x1)
      | true =>
        rw [if_pos rfl]
        refine ⟨fun σ2 H2 => ∃ F2 ρ2, Ext F0 B F2 H2 ∧ StR E B F2 H2 σ2 ρ2 ∧ PostS E W F0 B Dn (whL pc pb m ρ2), fun σ2 H2 w => ⟨m, Nat.lt_succ_self m, w⟩, ?_⟩
        refine b2 F0 B F1 H1 σ' ρ' _ (x'.trans x1) (r'.mono x1) ?_
        simp only at p'
        cases eb : pb ρ' with
        | nx ρ5 => rw [eb] at p'; exact fun F5 H5 σ5 x5 r5 => ⟨F5, ρ5, x5, r5, p'⟩
        | ct ρ5 => rw [eb] at p'; exact fun F5 H5 σ5 x5 r5 => ⟨F5, ρ5, x5, r5, p'⟩
        | bk ρ5 => rw [eb] at p'; exact p'
        | rt d => rw [eb] at p'; exact p'
        | err cc z ρ5 => rw [eb] at p'; exact p'
        | no => rw [eb] at p'; exact p'

/-! ## raise, try -/
/-- raise C('..'), a class of the program without an __init__ -/
theorem xs_raise {x m : Str} {j : Nat} {C : Addr} {p1 p2 p3 pos : Pos} {bmB : List Value} {B0 newId initId : String} (c : Ctx X E W k) (F : PySem.ExcBaseFacts B0 newId initId bmB) (hE : E.cl x = C) (q : PySem.W.excIn E.K C bmB newId = true) (gC : ∀ i, (X i).mg x = some (.ref C)) (kC : PySem.W.keepIn E.K (.ref C) = true) (r : ∀ i, Raises (X i) (.ref C)) (hg : ∀ i, Gl (X i) x) (hdb : (x == ("__debug__" : Str)) = false := by decide) :
    XS X E W (.Raise (some (.Call (.Name x p1) [.Constant (.str m) j p2] [] p3)) none pos) (fun ρ => .err x none ρ) := by
  refine ⟨_, fun i => ps_raise (c.calm i) (c.tk i) (pmk_own F (by rw [c.K i]; exact q) (gC i) (by rw [c.K i]; exact kC) (r i) (hg i) hdb), fun F0 B F H σ ρ Dn xx rr post => ?_⟩
  exact post F H σ (.ref C) none xx rr ⟨by rw [hE], rfl⟩
end
end DL
end

section
set_option linter.all false
set_option maxRecDepth 100000
set_option maxHeartbeats 4000000
namespace DL
open PySem PySem.Spec L2

/-! ## defs and their promises -/
abbrev WF (Ex : XK) : WX := fun cls dd _ H => Ex cls dd H
/-- the def computes f -/
def spF (E : Am) (n : Nat) (f : List D → Rs D) : Sp := fun vs H Q Ex => ∃ F ds, Same F H ∧ RepL E F ds vs ∧ ds.length = n ∧ Post E (WF Ex) [] F H (GS E H) Q (f ds)
theorem spF_len {E : Am} {n : Nat} {f : List D → Rs D} {vs : List V} {H : Hp} {Q : VK} {Ex : XK} (h : spF E n f vs H Q Ex) : vs.length = n := by
  obtain ⟨F, ds, _, r, hl, _⟩ := h
  rw [← r.len]; exact hl
def runF (m : Nat) (p : Ev → Fl) (ds : List D) : Rs D := match p (ds.map .dat ++ List.replicate (m - ds.length) .unb) with
  | .nx _ => .ok .non | .rt d => .ok d | .err c x _ => .err c x | _ => .no
theorem start_str {E : Am} {B F H : Hp} {N : List Str} {ds : List D} {vs : List V} (h : RepL E F ds vs) : StR E B F H (L2.start N vs) (ds.map .dat ++ List.replicate (N.length - ds.length) .unb) := by
  have hl := h.len
  have noown : ∀ (i : Nat) (d : D), (ds.map EV.dat ++ List.replicate (N.length - ds.length) EV.unb)[i]? ≠ some (.own d) := fun i d e => by
    have hm := List.mem_of_getElem? e
    rcases List.mem_append.mp hm with z | z
    · obtain ⟨y, _, q⟩ := List.mem_map.mp z; cases q
    · have := List.eq_of_mem_replicate z; cases this
  refine ⟨by unfold L2.start; simp [hl], fun i d e => ?_, fun i d e => absurd e (noown i d), fun i j d d' l _ e => absurd e (noown i d)⟩
  by_cases hi : i < ds.length
  · rw [List.getElem?_append_left (by simpa using hi), List.getElem?_map] at e
    cases q : ds[i]? with
    | none => rw [q] at e; cases e
    | some x =>
      rw [q] at e; cases e
      obtain ⟨v, e1, e2⟩ := h.get q
      refine ⟨v, ?_, e2⟩
      unfold L2.start
      rw [List.getElem?_append_left (by simp; omega), List.getElem?_map, e1]; rfl
  · rw [List.getElem?_append_right (by simpa using hi)] at e
    have := List.eq_of_mem_replicate (List.mem_of_getElem? e)
    cases this
section
variable {P : Program} {w : World} {E : Am} {mg : Str → Option Value} {base : Heap}
/-- the context of a def's body -/
abbrev Bd (P : Program) (w : World) (E : Am) (mg : Str → Option Value) (base : Heap) (N : List Str) (qual : Str) (sc : Scope) (f : Addr) (cdv : Value) (A : Around) (outer : List Env) (s : Shared) (H : Hp) (Ex : XK) : Unit → Cx := fun _ => cxOf (L2.CX P w) P w E.K mg base N qual sc f cdv A outer s H Ex
theorem bd_ctx {N : List Str} {qual : Str} {sc : Scope} {f : Addr} {cdv : Value} {A : Around} {outer : List Env} {s : Shared} {H : Hp} {Ex : XK} {k : Nat} (hr : Room k (A.deeper (PyProof.Rows.envOfC qual sc s.heap.objs.size f cdv))) : Ctx (Bd P w E mg base N qual sc f cdv A outer s H Ex) E (WF Ex) k :=
  ⟨fun _ => rfl, fun _ => rfl, fun _ => hr, fun _ => takes_of rfl rfl rfl rfl, fun _ => passes_of rfl⟩
theorem fn_ok {x qual : Str} {st : Stmt} {f : Addr} {fd : FuncData} {N ps : List Str} {k : Nat} {p : Ev → Fl} (F : Fun E.K x qual st f fd) (S : FnScope N ps (defScope st))
    (body : ∀ (cdv : Value) (A : Around) (outer : List Env) (s : Shared) (H : Hp) (Ex : XK), Room k (A.deeper (PyProof.Rows.envOfC qual (defScope st) s.heap.objs.size f cdv)) → XSs (Bd P w E mg base N qual (defScope st) f cdv A outer s H Ex) E (WF Ex) (defBody st) p) :
    FnOk P w E.K mg base (L2.CX P w) (k + 1) f fd ps (spF E ps.length (runF N.length p)) := by
  refine F.okX S (fun vs H Q Ex h => spF_len h) (fun cdv A outer s H vs Q Ex hr h => ?_)
  obtain ⟨t, t1, t2⟩ := body cdv A outer s H Ex hr
  refine ⟨t, t1 (), ?_⟩
  obtain ⟨F0, ds, sm, r, hl, post⟩ := h
  refine t2 F0 H F0 H _ _ _ (Ext.refl sm) (start_str (N := N) r) ?_
  unfold runF at post
  cases e : p (ds.map EV.dat ++ List.replicate (N.length - ds.length) EV.unb) with
  | nx ρ => rw [e] at post; exact fun F' H' σ' x' _ => post F' H' .non x' rfl
  | rt d => rw [e] at post; exact fun F' H' v x' g => post F' H' v x' g
  | err c z ρ => rw [e] at post; exact fun F' H' σ' cls dd x' _ g => post F' H' cls dd x' g
  | bk ρ => rw [e] at post; exact post.elim
  | ct ρ => rw [e] at post; exact post.elim
  | no => rw [e] at post; exact post.elim
end
section
variable {I : Type} {X : I → Cx} {E : Am} {W : WX} {k : Nat}
/-- f(a, ..): the arguments, then the defaults -/
def pFn (f : List D → Rs D) (dds : List D) (q : Ev → Rs (List D)) : Ev → Rs D := fun ρ => (q ρ).bind fun ds => f (ds ++ dds)
theorem post_fn {E : Am} {W : WX} {σ : L2.St} {F H : Hp} {Q : VK} {r : Rs D} (h : Post E W σ F H (GS E H) Q r) : Post E (WF (WE W σ)) [] F H (GS E H) Q r := by
  cases r with
  | ok a => exact h
  | err c x => exact h
  | no => exact h
theorem evals_fn {n : Nat} {f : List D → Rs D} {dds : List D} {dvs : List V} {t : TA} {q : Ev → Rs (List D)} (hd : ∀ F, RepL E F dds dvs) (hn : ∀ ds r, f ds = r → r = .no ∨ ds.length = n) (h : Evals E W (GA E) t q) : Evals E W (GS E) (tCallSD (spF E n f) dvs (WE W) t) (pFn f dds q) := by
  intro B F H σ ρ Q s sb r post
  show t σ H _
  refine Evals.seq h s sb r post fun F1 H1 ds vs e1 x1 sb1 r1 gg post1 => ?_
  rcases hn (ds ++ dds) _ rfl with z | z
  · rw [z] at post1; exact post1.elim
  · exact ⟨F1, ds ++ dds, x1.fh, gg.append (hd F1), z, post_fn post1⟩
/-- f wants n arguments -/
def arity (n : Nat) (f : List D → Rs D) : List D → Rs D := fun ds => if ds.length = n then f ds else .no
theorem arity_n {n : Nat} {f : List D → Rs D} : ∀ ds r, arity n f ds = r → r = .no ∨ ds.length = n := fun ds r e => by
  unfold arity at e
  by_cases c : ds.length = n
  · exact .inr c
  · rw [if_neg c] at e; exact .inl e.symm
theorem sp_arity {n : Nat} {f : List D → Rs D} {vs : List V} {H : Hp} {Q : VK} {Ex : XK} (h : spF E n (arity n f) vs H Q Ex) : spF E n f vs H Q Ex := by
  obtain ⟨F, ds, a, b, c, d⟩ := h
  refine ⟨F, ds, a, b, c, ?_⟩
  unfold arity at d
  rw [if_pos c] at d
  exact d
theorem xe_call {j n : Nat} {f : Addr} {fd : FuncData} {ps : List Str} {fn : List D → Rs D} {dds : List D} {dvs : List V} {ds : List Value} {x : Str} {p pos : Pos} {e : Expr} {es : List Expr} {q : Ev → Rs (List D)} (c : Ctx X E W k)
    (G : ∀ i, FnOk (X i).prog (X i).w (X i).K (X i).mg (X i).base (L2.CX (X i).prog (X i).w) j f fd ps (spF E n fn)) (hj : j ≤ k) (hg : ∀ i, Gl (X i) x) (hm : ∀ i, (X i).mg x = some (.ref f)) (hk : PySem.W.keepIn E.K (.ref f) = true) (hb : Binds E.K fd ps ds) (hd : Vals dvs ds) (hD : ∀ F, RepL E F dds dvs) (ha : XA X E W (e :: es) q)
    (hdb : (x == ("__debug__" : Str)) = false := by decide) (he : ∀ i, starEach (e :: es) (X i).env = (false, eval e (X i).env) :: starEach es (X i).env := by intro _; rfl) (hpl : ∀ i, (backTo pos (starEach es (X i).env)).any (·.1) = false := by intro _; rfl) : XE X E W (.Call (.Name x p) (e :: es) [] pos) (pFn (arity n fn) dds q) := by
  obtain ⟨t, a1, a2⟩ := ha
  refine ⟨_, fun i => pe_callSD ((G i).imp fun vs H Q Ex h => sp_arity h) ((c.room i).mono hj) (hg i) (hm i) (by rw [c.K i]; exact hk) (by rw [c.K i]; exact hb) hd (fun σ => passAt (c.tk i) σ) (a1 i) hdb (he i) (hpl i), evals_fn hD arity_n a2⟩
/-- f() -/
theorem xe_call0 {j n : Nat} {f : Addr} {fd : FuncData} {ps : List Str} {fn : List D → Rs D} {x : Str} {p pos : Pos} (c : Ctx X E W0 k)
    (G : ∀ i, FnOk (X i).prog (X i).w (X i).K (X i).mg (X i).base (L2.CX (X i).prog (X i).w) j f fd ps (spF E n fn)) (hj : j ≤ k) (hg : ∀ i, Gl (X i) x) (hm : ∀ i, (X i).mg x = some (.ref f)) (hk : PySem.W.keepIn E.K (.ref f) = true) (hb : Binds E.K fd ps [])
    (hdb : (x == ("__debug__" : Str)) = false := by decide) : XE X E W0 (.Call (.Name x p) [] [] pos) (pFn (arity n fn) [] pNil) := by
  refine ⟨tCall (spF E n (arity n fn)) [] E0 tNil, fun i => pe_call0 ((G i).imp fun vs H Q Ex h => sp_arity h) ((c.room i).mono hj) (hg i) (hm i) (by rw [c.K i]; exact hk) (by rw [c.K i]; exact hb) .nil passL hdb, ?_⟩
  have h := evals_fn (E := E) (W := W0) (n := n) (f := arity n fn) (dds := []) (dvs := []) (t := tNil) (q := pNil) (fun F => rfl) arity_n (fun B F H σ ρ Q s sb r post => ev_ok s post rfl)
  exact h

/-! ## methods -/
def tMethSD (C : Addr) (m : Str) (sp : Sp) (Ex : L2.St → XK) (ta : TE) (t : TA) : TE := fun σ H Q => ta σ H fun x H1 => ∃ a dx fs, x = .ref a ∧ H1 a = some (.ins C dx fs) ∧ fs.lookup m = none ∧ t σ H1 fun vs H2 => sp (x :: (vs ++ [])) H2 Q (Ex σ)
theorem pe_methSD {X : Cx} {CX : CXT} {k : Nat} {f C : Addr} {fd : FuncData} {ps : List Str} {sp : Sp} {Ex : L2.St → XK} {m : Str} {pos apos : Pos} {e o : Expr} {es : List Expr} {ta : TE} {t : TA} {pl : Sem Bool} (he : PE X o ta) (c : Cls X.K C) (hm : Meth X.K C m f) (F : FnOk X.prog X.w X.K X.mg X.base CX k f fd ps sp) (hr : Room k X.A) (hb : Binds X.K fd ps []) (hx : ∀ σ, PassesAt CX X σ (Ex σ)) (ha : PA X (e :: es) t)
    (hst : starEach (e :: es) X.env = (false, eval e X.env) :: starEach es X.env := by rfl) (hpl : (backTo pos (starEach es X.env)).any (·.1) = false := by rfl)
    (ht : eval (.Call (.Attribute o m apos) (e :: es) [] pos) X.env = (do
      let ov ← eval o X.env
      standAt apos.atName
      let (f, first) ← holding [ov] (getMethod ov m pl)
      callWith pos f first (backTo pos (starEach (e :: es) X.env)) (backToKw pos (keywordEach [] X.env))) := by rfl) :
    PE X (.Call (.Attribute o m apos) (e :: es) [] pos) (tMethSD C m sp Ex ta t) := by
  refine ⟨fun pins s σ H Q I h => ?_⟩
  refine PySem.W.methodCall_KW (pl := pl) (thn (he.run pins s σ H _ I h) fun u s1 ⟨x, H1, I1, rx, a, dx, fs, ex, ea, l, q⟩ => ?_) ht
  subst ex
  obtain rfl : u = Value.ref a := rx
  refine getmeth_ok I1 ea c hm l ?_
  refine PySem.W.callWith_K (first := [.ref a]) (h₀ := X.base) I.ok.mod.kin hm.kp (thn (ha.run pos pins s1 σ H1 _ I1 q) fun us s2 ⟨vs, H2, I2, r, q2⟩ => ⟨I2.kIn, ?_⟩) hst hpl
  exact run_fnSD (us := .ref a :: us) (vs := .ref a :: vs) F hr hb .nil (hx σ) I2 (.cons rfl r) q2
theorem pe_methSD0 {X : Cx} {CX : CXT} {k : Nat} {f C : Addr} {fd : FuncData} {ps : List Str} {sp : Sp} {Ex : L2.St → XK} {m : Str} {pos apos : Pos} {o : Expr} {ta : TE} {pl : Sem Bool} (he : PE X o ta) (c : Cls X.K C) (hm : Meth X.K C m f) (F : FnOk X.prog X.w X.K X.mg X.base CX k f fd ps sp) (hr : Room k X.A) (hb : Binds X.K fd ps []) (hx : ∀ σ, PassesAt CX X σ (Ex σ))
    (ht : eval (.Call (.Attribute o m apos) [] [] pos) X.env = (do
      let ov ← eval o X.env
      standAt apos.atName
      let (f, first) ← holding [ov] (getMethod ov m pl)
      callWith pos f first (backTo pos (starEach [] X.env)) (backToKw pos (keywordEach [] X.env))) := by rfl) :
    PE X (.Call (.Attribute o m apos) [] [] pos) (tMethSD C m sp Ex ta tNil) := by
  refine ⟨fun pins s σ H Q I h => ?_⟩
  refine PySem.W.methodCall_KW (pl := pl) (thn (he.run pins s σ H _ I h) fun u s1 ⟨x, H1, I1, rx, a, dx, fs, ex, ea, l, q⟩ => ?_) ht
  subst ex
  obtain rfl : u = Value.ref a := rx
  refine getmeth_ok I1 ea c hm l ?_
  exact PySem.W.callWith_K0 (first := [.ref a]) I1.kIn hm.kp (run_fnSD (us := [.ref a]) (vs := [.ref a]) F hr hb .nil (hx σ) I1 (.cons rfl .nil) q)
/-- o.m(e, ..), o a datum of the class C -/
def pMeth (C m : Str) (f : List D → Rs D) (p : Ev → Rs D) (q : Ev → Rs (List D)) : Ev → Rs D := fun ρ => (p ρ).bind fun d => match d with
  | .ins C' ns fs => if C' = C ∧ m ∉ ns then (q ρ).bind fun ds => f (.ins C' ns fs :: ds) else .no
  | _ => .no
theorem evals_meth {n : Nat} {C m : Str} {f : List D → Rs D} {ta : TE} {t : TA} {p : Ev → Rs D} {q : Ev → Rs (List D)} (hn : ∀ ds r, f ds = r → r = .no ∨ ds.length = n) (hp : Evals E W (GS E) ta p) (h : Evals E W (GA E) t q) : Evals E W (GS E) (tMethSD (E.cl C) m (spF E n f) (WE W) ta t) (pMeth C m f p q) := by
  intro B F H σ ρ Q s sb r post
  show ta σ H _
  refine Evals.seq hp s sb r post fun F1 H1 d v e1 x1 sb1 r1 gg post1 => ?_
  cases d <;> first | exact post1.elim | skip
  rename_i C' ns fs
  have pz : Post E W σ F1 H1 (GS E H) Q (if C' = C ∧ m ∉ ns then (q ρ).bind fun ds => f (.ins C' ns fs :: ds) else .no) := post1
  by_cases cc : C' = C ∧ m ∉ ns
  · rw [if_pos cc] at pz
    clear post1
    obtain ⟨rfl, cm⟩ := cc
    obtain ⟨a, dx, vs, rfl, q1, q2, q3⟩ := repO_ins x1.fh (.inl gg)
    refine ⟨a, dx, _, rfl, q1, look_none cm, ?_⟩
    show t σ H1 _
    refine Evals.seq h x1.fh sb1 r1 pz fun F2 H2 ds us e2 x2 sb2 r2 g2 post2 => ?_
    rcases hn (.ins C' ns fs :: ds) _ rfl with z | z
    · rw [z] at post2; exact post2.elim
    · refine ⟨F2, .ins C' ns fs :: ds, x2.fh, .cons (Rep.mono x2.f _ _ gg) ?_, z, post_fn post2⟩
      rw [List.append_nil]; exact g2
  · rw [if_neg cc] at pz; exact pz.elim
theorem xe_meth {j n : Nat} {f : Addr} {fd : FuncData} {ps : List Str} {fn : List D → Rs D} {C m : Str} {fs : List Str} {pos apos : Pos} {e o : Expr} {es : List Expr} {p : Ev → Rs D} {q : Ev → Rs (List D)} {pl : Sem Bool} (c : Ctx X E W k) (hc : ClsOk E C fs) (hme : Meth E.K (E.cl C) m f)
    (G : ∀ i, FnOk (X i).prog (X i).w (X i).K (X i).mg (X i).base (L2.CX (X i).prog (X i).w) j f fd ps (spF E n fn)) (hj : j ≤ k) (hb : Binds E.K fd ps []) (ho : XE X E W o p) (ha : XA X E W (e :: es) q)
    (hst : ∀ i, starEach (e :: es) (X i).env = (false, eval e (X i).env) :: starEach es (X i).env := by intro _; rfl) (hpl : ∀ i, (backTo pos (starEach es (X i).env)).any (·.1) = false := by intro _; rfl)
    (ht : ∀ i, eval (.Call (.Attribute o m apos) (e :: es) [] pos) (X i).env = (do
      let ov ← eval o (X i).env
      standAt apos.atName
      let (f, first) ← holding [ov] (getMethod ov m pl)
      callWith pos f first (backTo pos (starEach (e :: es) (X i).env)) (backToKw pos (keywordEach [] (X i).env))) := by intro _; rfl) : XE X E W (.Call (.Attribute o m apos) (e :: es) [] pos) (pMeth C m (arity n fn) p q) := by
  obtain ⟨ta, o1, o2⟩ := ho
  obtain ⟨t, a1, a2⟩ := ha
  exact ⟨_, fun i => pe_methSD (o1 i) (by rw [c.K i]; exact hc.cl) (by rw [c.K i]; exact hme) ((G i).imp fun vs H Q Ex h => sp_arity h) ((c.room i).mono hj) (by rw [c.K i]; exact hb) (fun σ => passAt (c.tk i) σ) (a1 i) (hst i) (hpl i) (ht i), evals_meth arity_n o2 a2⟩
theorem xe_meth0 {j n : Nat} {f : Addr} {fd : FuncData} {ps : List Str} {fn : List D → Rs D} {C m : Str} {fs : List Str} {pos apos : Pos} {o : Expr} {p : Ev → Rs D} {pl : Sem Bool} (c : Ctx X E W k) (hc : ClsOk E C fs) (hme : Meth E.K (E.cl C) m f)
    (G : ∀ i, FnOk (X i).prog (X i).w (X i).K (X i).mg (X i).base (L2.CX (X i).prog (X i).w) j f fd ps (spF E n fn)) (hj : j ≤ k) (hb : Binds E.K fd ps []) (ho : XE X E W o p)
    (ht : ∀ i, eval (.Call (.Attribute o m apos) [] [] pos) (X i).env = (do
      let ov ← eval o (X i).env
      standAt apos.atName
      let (f, first) ← holding [ov] (getMethod ov m pl)
      callWith pos f first (backTo pos (starEach [] (X i).env)) (backToKw pos (keywordEach [] (X i).env))) := by intro _; rfl) : XE X E W (.Call (.Attribute o m apos) [] [] pos) (pMeth C m (arity n fn) p pNil) := by
  obtain ⟨ta, o1, o2⟩ := ho
  exact ⟨_, fun i => pe_methSD0 (o1 i) (by rw [c.K i]; exact hc.cl) (by rw [c.K i]; exact hme) ((G i).imp fun vs H Q Ex h => sp_arity h) ((c.room i).mono hj) (by rw [c.K i]; exact hb) (fun σ => passAt (c.tk i) σ) (ht i), evals_meth arity_n o2 (fun B F H σ ρ Q s sb r post => ev_ok s post rfl)⟩
end
end DL
end

section
set_option linter.all false
set_option maxRecDepth 100000
set_option maxHeartbeats 4000000
namespace DL
open PySem PySem.Spec L2

/-! ## data of the written part -/
mutual
def repB (K : PySem.W.Frag) : D → Value → Bool
  | .non, .none => true
  | .bl b, .bool c => b == c
  | .int i, .int j _ => decide (i = j)
  | .str x, .str y _ => decide (x = y)
  | .tup ds, .ref a => (match K.lookup a with
    | some ⟨.type c, _, .seq its _, _⟩ => decide (c = "tuple") && decide (its.size ≤ sizeLine) && repBL K ds its.toList
    | _ => false)
  | .kl ds, .ref a => (match K.lookup a with
    | some ⟨.type c, none, .seq its _, _⟩ => decide (c = "list") && decide (its.size ≤ sizeLine) && repBL K ds its.toList
    | _ => false)
  | _, _ => false
def repBL (K : PySem.W.Frag) : List D → List Value → Bool
  | [], [] => true
  | d :: ds, u :: us => repB K d u && repBL K ds us
  | _, _ => false
end
section
variable {E : Am}
mutual
theorem repB_ok : ∀ (d : D) (u : Value), repB E.K d u = true → ∃ v, RelV v u ∧ ∀ F, Rep E F d v
  | .non, u, h => by
    cases u <;> first | (simp [repB] at h; done) | exact ⟨.non, rfl, fun _ => rfl⟩
  | .bl b, u, h => by
    cases u <;> first | (simp [repB] at h; done) | skip
    rename_i c
    have e : b = c := by simpa [repB] using h
    subst e
    exact ⟨.bl b, rfl, fun _ => rfl⟩
  | .int i, u, h => by
    cases u <;> first | (simp [repB] at h; done) | skip
    rename_i c t
    have e : i = c := by simpa [repB] using h
    subst e
    exact ⟨.int i, ⟨t, rfl⟩, fun _ => rfl⟩
  | .str i, u, h => by
    cases u <;> first | (simp [repB] at h; done) | skip
    rename_i c t
    have e : i = c := by simpa [repB] using h
    subst e
    exact ⟨.str i, ⟨t, rfl⟩, fun _ => rfl⟩
  | .tup ds, u, h => by
    cases u <;> first | (simp [repB] at h; done) | skip
    rename_i a
    unfold repB at h
    split at h
    · rename_i c _ its n _ q
      obtain ⟨h1, h3⟩ := Bool.and_eq_true_iff.mp h
      obtain ⟨h1, h2⟩ := Bool.and_eq_true_iff.mp h1
      obtain ⟨vs, r1, r2⟩ := repBL_ok ds its.toList h3
      refine ⟨.ref a, rfl, fun F => ⟨a, vs, rfl, .inr ⟨_, its, n, q, congrArg Value.type (of_decide_eq_true h1), rfl, of_decide_eq_true h2, r1⟩, r2 F⟩⟩
    · cases h
  | .kl ds, u, h => by
    cases u <;> first | (simp [repB] at h; done) | skip
    rename_i a
    unfold repB at h
    split at h
    · rename_i c its n _ q
      obtain ⟨h1, h3⟩ := Bool.and_eq_true_iff.mp h
      obtain ⟨h1, h2⟩ := Bool.and_eq_true_iff.mp h1
      obtain ⟨vs, r1, r2⟩ := repBL_ok ds its.toList h3
      refine ⟨.ref a, rfl, fun F => ⟨a, vs, rfl, .inr ⟨_, its, n, q, congrArg Value.type (of_decide_eq_true h1), rfl, rfl, of_decide_eq_true h2, r1⟩, r2 F⟩⟩
    · cases h
  | .lst _, u, h => by cases u <;> simp [repB] at h
  | .ins _ _ _, u, h => by cases u <;> simp [repB] at h
  | .dk _ _, u, h => by cases u <;> simp [repB] at h
  | .dt _ _, u, h => by cases u <;> simp [repB] at h
theorem repBL_ok : ∀ (ds : List D) (us : List Value), repBL E.K ds us = true → ∃ vs, Vals vs us ∧ ∀ F, RepL E F ds vs
  | [], [], _ => ⟨[], .nil, fun _ => rfl⟩
  | [], _ :: _, h => by simp [repBL] at h
  | _ :: _, [], h => by simp [repBL] at h
  | d :: ds, u :: us, h => by
    have h' : (repB E.K d u && repBL E.K ds us) = true := by simpa [repBL] using h
    obtain ⟨h1, h2⟩ := Bool.and_eq_true_iff.mp h'
    obtain ⟨v, r1, r2⟩ := repB_ok d u h1
    obtain ⟨vs, q1, q2⟩ := repBL_ok ds us h2
    exact ⟨v :: vs, .cons r1 q1, fun F => .cons (r2 F) (q2 F)⟩
end
/-- the module's name x is the datum d -/
def conB (x : Str) (d : D) (K : PySem.W.Frag) : Bool := match PySem.W.nsIn K mainGlobals x with
  | some (some u) => repB K d u
  | _ => false
/-- the module's name x is the built-in id -/
def bltB (x : Str) (id : String) (K : PySem.W.Frag) : Bool := match PySem.W.nsIn K mainGlobals x with
  | some (some (.builtin j)) => decide (j = id)
  | _ => false
/-- the object at p is the datum d -/
def adrB (p : PySem.W.Frag → Addr) (d : D) (K : PySem.W.Frag) : Bool := repB K d (.ref (p K))
theorem con_ok {h : Heap} {mg : Str → Option Value} {x : Str} {d : D} (X : E.K.In h) (G : h.Ns mainGlobals mg) (c : conB x d E.K = true) : ∃ u v, mg x = some u ∧ RelV v u ∧ ∀ F, Rep E F d v := by
  unfold conB at c
  split at c
  · rename_i u q
    obtain ⟨v, r1, r2⟩ := repB_ok d u c
    exact ⟨u, v, PySem.W.mg_of X G q, r1, r2⟩
  · cases c
theorem blt_ok {h : Heap} {mg : Str → Option Value} {x : Str} {id : String} (X : E.K.In h) (G : h.Ns mainGlobals mg) (c : bltB x id E.K = true) : mg x = some (.builtin id) := by
  unfold bltB at c
  split at c
  · rename_i u q
    have e : u = id := of_decide_eq_true c
    subst e
    exact PySem.W.mg_of X G q
  · cases c
theorem adr_ok {p : PySem.W.Frag → Addr} {d : D} (c : adrB p d E.K = true) : ∀ F, Rep E F d (.ref (p E.K)) := by
  obtain ⟨v, r1, r2⟩ := repB_ok d _ c
  cases v <;> first | (obtain ⟨_, q⟩ := r1; cases q; done) | (cases r1; done) | skip
  rename_i a
  cases r1
  exact r2
/-- a constant of the module -/
structure Con (mg : Str → Option Value) (E : Am) (x : Str) (d : D) : Prop where
  ex : ∃ u v, mg x = some u ∧ RelV v u ∧ ∀ F, Rep E F d v
theorem xe_con {I : Type} {X : I → Cx} {W : WX} {x : Str} {d : D} {pos : Pos} {mg : Str → Option Value} (h : Con mg E x d) (hm : ∀ i, (X i).mg x = mg x) (hg : ∀ i, Gl (X i) x) (hd : (x == ("__debug__" : Str)) = false := by decide) : XE X E W (.Name x pos) (pC d) := by
  obtain ⟨u, v, h1, h2, h3⟩ := h.ex
  exact xe_c (fun i => pe_glob (hg i) ((hm i).trans h1) h2 hd) h3
end
/-! ## the facts by names -/
open He in
def obsE (fa : List Fa) (ex : List (PySem.W.Frag → Bool)) (fn : List DefD) (K : PySem.W.Frag) : AlD := ((fa.all fun f => f.ok K) && ((ex.all fun f => f K) && fn.all fun d => d.ok K), fn.map fun d => fnW K d.at_)
def SaysE (fa : List He.Fa) (ex : List (PySem.W.Frag → Bool)) (fn : List He.DefD) (K : PySem.W.Frag) : Prop := obsE fa ex fn K = He.valD fn
def obsEG (n : Nat) (fa : List He.Fa) (ex : List (PySem.W.Frag → Bool)) (fn : List He.DefD) (g : Addr → Option Obj) : He.AlD := obsE fa ex fn (He.frG g (He.asD g n))
def hookE (n : Nat) (fa : List He.Fa) (ex : List (PySem.W.Frag → Bool)) (fn : List He.DefD) : PySem.W.Hook where
  α := He.AlD
  obs := fun s => obsEG n fa ex fn s.heap.get?
  val := fun _ => He.valD fn
  says := fun _ h => ∃ K : PySem.W.Frag, K.In h ∧ SaysE fa ex fn K
  of := fun _ _ e => ⟨_, He.frG_in, e⟩
  keeps := fun _ _ _ ⟨K, hK, c⟩ k => ⟨K, PySem.W.Frag.In.keeps hK k, c⟩
theorem obsEG_eq {n : Nat} {fa : List He.Fa} {ex : List (PySem.W.Frag → Bool)} {fn : List He.DefD} {g : Addr → Option Obj} {s : Shared} (h : ∀ a, g a = s.heap.get? a) : obsEG n fa ex fn g = (hookE n fa ex fn).obs s := by
  have e : g = s.heap.get? := funext h
  rw [e] <;> rfl
section
variable {fa : List He.Fa} {ex : List (PySem.W.Frag → Bool)} {fn : List He.DefD} {K : PySem.W.Frag}
theorem SaysE.both (c : SaysE fa ex fn K) : ((fa.all fun f => f.ok K) && ((ex.all fun f => f K) && fn.all fun d => d.ok K)) = true := congrArg (fun z : He.AlD => z.1) c
theorem SaysE.fact (c : SaysE fa ex fn K) (i : Nat) {f : He.Fa} (h : fa[i]? = some f := by rfl) : f.ok K = true :=
  List.all_eq_true.mp (Bool.and_eq_true_iff.mp c.both).1 f (List.mem_of_getElem? h)
theorem SaysE.ext (c : SaysE fa ex fn K) (i : Nat) {f : PySem.W.Frag → Bool} (h : ex[i]? = some f := by rfl) : f K = true :=
  List.all_eq_true.mp (Bool.and_eq_true_iff.mp (Bool.and_eq_true_iff.mp c.both).2).1 f (List.mem_of_getElem? h)
theorem SaysE.def_ (c : SaysE fa ex fn K) (i : Nat) {d : He.DefD} (h : fn[i]? = some d := by rfl) : ∃ fd, FunD K d.name d.qual d.params d.body d.scope (d.dvs K) (d.kws K) (He.fAd K d.at_) fd := by
  have c2 := (Bool.and_eq_true_iff.mp (Bool.and_eq_true_iff.mp c.both).2).2
  have e : fn.map (fun d => He.fnW K d.at_) = fn.map He.DefD.val := congrArg (fun z : He.AlD => z.2) c
  have e2 : (fn.map fun d => He.fnW K d.at_)[i]? = (fn.map He.DefD.val)[i]? := by rw [e]
  rw [List.getElem?_map, List.getElem?_map, h] at e2
  exact He.DefD.funD (Option.some.inj e2) (List.all_eq_true.mp c2 d (List.mem_of_getElem? h))
end
/-! ## a def by its row -/
section
variable {P : Program} {w : World} {E : Am} {mg : Str → Option Value} {base : Heap}
theorem fn_okD {x qual : Str} {params : Arguments} {body : List Stmt} {sc : Scope} {dvs : List V} {kws : List (Str × V)} {f : Addr} {fd : FuncData} {N ps : List Str} {k : Nat} {p : Ev → Fl} (F : FunD E.K x qual params body sc dvs kws f fd) (S : FnScope N ps sc)
    (hb : ∀ (cdv : Value) (A : Around) (outer : List Env) (s : Shared) (H : Hp) (Ex : XK), Room k (A.deeper (PyProof.Rows.envOfC qual sc s.heap.objs.size f cdv)) → XSs (Bd P w E mg base N qual sc f cdv A outer s H Ex) E (WF Ex) body p) :
    FnOk P w E.K mg base (L2.CX P w) (k + 1) f fd ps (spF E ps.length (runF N.length p)) := by
  refine F.ok S (fun vs H Q Ex h => spF_len h) (fun cdv A outer s H vs Q Ex hr h => ?_)
  obtain ⟨t, t1, t2⟩ := hb cdv A outer s H Ex hr
  refine ⟨t, t1 (), ?_⟩
  obtain ⟨F0, ds, sm, r, hl, post⟩ := h
  refine t2 F0 H F0 H _ _ _ (Ext.refl sm) (start_str (N := N) r) ?_
  unfold runF at post
  cases e : p (ds.map EV.dat ++ List.replicate (N.length - ds.length) EV.unb) with
  | nx ρ => rw [e] at post; exact fun F' H' σ' x' _ => post F' H' .non x' rfl
  | rt d => rw [e] at post; exact fun F' H' v x' g => post F' H' v x' g
  | err c z ρ => rw [e] at post; exact fun F' H' σ' cls dd x' _ g => post F' H' cls dd x' g
  | bk ρ => rw [e] at post; exact post.elim
  | ct ρ => rw [e] at post; exact post.elim
  | no => rw [e] at post; exact post.elim
theorem law_sp {E : Am} {f : List D → Rs D} (h : ∀ ns : List Int, ns.length ≤ 63 → f [.kl (ns.map .int)] = .ok (.bl true)) (H : Hp) (a : Addr) (ns : List Int) (hl : ns.length ≤ 63) (hS : SqL E.K H a (ns.map V.int)) : spF E 1 f [.ref a] H (fun v _ => v = .bl true) fun _ _ _ => False := by
  have hr : ∀ ns : List Int, RepL E H (ns.map D.int) (ns.map V.int) := fun ns => by
    induction ns with
    | nil => exact rfl
    | cons n ns ih => exact .cons rfl ih
  refine ⟨H, [.kl (ns.map .int)], Same.refl H, .cons ⟨a, _, rfl, hS, hr ns⟩ rfl, rfl, ?_⟩
  rw [h ns hl]
  exact fun F' H' v _ g => g
theorem law_cx {P : Program} {w : World} (H : Hp) (s : Shared) (e : Value) (s' : Shared) : L2.CX P w [] H s (fun _ _ _ => False) e s' → False := by
  rintro ⟨_, _, _, _, _, _, _, _, _, _, _, _, z⟩
  exact z
end
end DL
end

section
set_option linter.all false
set_option maxRecDepth 100000
set_option maxHeartbeats 4000000
namespace DL
open PySem PySem.Spec L2
variable {I : Type} {X : I → Cx} {E : Am} {W : WX} {k : Nat}

/-! ## slices of any kind, strict -/
def fSl (d : D) (lo hi : Option Int) : Rs D := match itemsL d with
  | some ds => .ok (.lst (cutD ds lo hi))
  | none => fSlS d lo hi
def rSl3 (K : PySem.W.Frag) : V → Option Int → Option Int → Hp → VK → Prop := fun x lo hi H Q => rSlL K x lo hi H Q ∨ (rSlS x lo hi H Q ∨ rSlT K x lo hi H Q)
theorem xe_slice {e : Expr} {lo hi : Option Expr} {pos p2 : Pos} {p : Ev → Rs D} {l h : Ev → Rs (Option Int)} (c : Ctx X E W k) (he : XL X E W e p) (hl : XO X E W lo l) (hh : XO X E W hi h) : XE X E W (.Subscript e (.Slice lo hi none p2) pos) (pSl fSl p l h) := by
  obtain ⟨t, h1, h2⟩ := he
  obtain ⟨tl, l1, l2⟩ := hl
  obtain ⟨th, u1, u2⟩ := hh
  refine ⟨tSl (rSl3 E.K) t tl th, fun i => by rw [← c.K i]; exact pe_slice (sl_list.or (sl_str.or sl_tup)) (h1 i) (l1 i) (u1 i), ?_⟩
  intro B F H σ ρ Q s sb r post
  show t σ H _
  refine Evals.seq h2 s sb r post fun F1 H1 d v e1 x1 sb1 r1 gg post1 => ?_
  show tl σ H1 _
  refine Evals.seq l2 x1.fh sb1 r1 post1 fun F2 H2 o o' e2 x2 sb2 r2 g2 post2 => ?_
  cases g2
  show th σ H2 _
  refine Evals.seq u2 x2.fh sb2 r2 post2 fun F3 H3 o2 o2' e3 x3 sb3 r3 g3 post3 => ?_
  cases g3
  have gg := (gg.mono x2).mono x3
  unfold fSl at post3
  split at post3
  · rename_i ds ed
    obtain ⟨a, vs, rfl, q1, q2⟩ := repO_list x3.fh ed gg
    exact .inl ⟨a, vs, rfl, q1, fun p hp => post3 _ _ _ (Ext.new x3.fh hp) (gs_newL x3.fh hp (repL_cut q2 _ _))⟩
  · clear post1 post2
    right
    cases d with
    | str z =>
      have post3 : Post E W σ F3 H3 (GS E H3) Q (if z.length ≤ sizeLine then .ok (.str (cutS z o o2)) else .no) := post3
      by_cases c : z.length ≤ sizeLine
      · rw [if_pos c] at post3
        exact .inl ⟨z, repO_str gg, c, ev_ok x3.fh post3 rfl⟩
      · rw [if_neg c] at post3; exact post3.elim
    | tup ds =>
      have post3 : Post E W σ F3 H3 (GS E H3) Q (if HT.sIx ds.length 0 o = 0 ∧ HT.sIx ds.length ds.length o2 = ds.length then .no else .ok (.tup (cutD ds o o2))) := post3
      by_cases c : HT.sIx ds.length 0 o = 0 ∧ HT.sIx ds.length ds.length o2 = ds.length
      · rw [if_pos c] at post3; exact post3.elim
      · rw [if_neg c] at post3
        obtain ⟨a, vs, rfl, q1, q2⟩ := repO_tup gg
        refine .inr ⟨a, vs, rfl, sqT_mono x3.fh q1, by rw [← q2.len]; exact c, fun p hp => post3 _ _ _ (Ext.new x3.fh hp) (gs_newT x3.fh hp (repL_cut q2 _ _))⟩
    | _ => exact post3.elim

/-! ## isinstance(x, T) -/
def tyN : D → String
  | .non => "NoneType" | .bl _ => "bool" | .int _ => "int" | .str _ => "str" | .tup _ => "tuple" | .lst _ => "list" | .kl _ => "list" | .dk _ _ => "dict" | .dt _ _ => "dict" | .ins _ _ _ => "object"
def isiB (a b : String) : Bool := a == b || (a == "bool" && b == "int")
def isiOk (a b : String) : Bool := ["NoneType", "bool", "int", "str", "tuple", "list", "dict"].contains a && ["bool", "int", "str", "tuple", "list", "dict"].contains b
theorem kit_all : (["NoneType", "bool", "int", "str", "tuple", "list", "dict"].all fun a => ["bool", "int", "str", "tuple", "list", "dict"].all fun b => decide (kitB a b = some (isiB a b))) = true := by decide +kernel
theorem kit_is {a b : String} (h : isiOk a b = true) : kitB a b = some (isiB a b) := by
  obtain ⟨h1, h2⟩ := Bool.and_eq_true_iff.mp h
  have := List.all_eq_true.mp (List.all_eq_true.mp kit_all a (List.contains_iff_mem.mp h1)) b (List.contains_iff_mem.mp h2)
  exact of_decide_eq_true this
theorem tyx_of {F H : Hp} (s : Same F H) {d : D} {v : V} (hd : ∀ C ns fs, d ≠ .ins C ns fs) (h : RepO E F H d v) : TyX E.K H v (.type (tyN d)) := by
  cases d with
  | non => cases repO_non h; exact .base .non
  | bl b => cases repO_bl h; exact .base (.bl _)
  | int b => cases repO_int h; exact .base (.int _)
  | str b => cases repO_str h; exact .base (.str _)
  | tup ds =>
    obtain ⟨a, vs, rfl, h2, _⟩ := repO_tup h
    rcases sqT_mono s h2 with (h2 | ⟨o, h2⟩) | ⟨o, its, n, h2, h3, _⟩
    · exact .base (.tup h2)
    · exact .fTuple h2
    · exact .kTuple h2 h3
  | lst ds =>
    obtain ⟨a, vs, rfl, h2, _⟩ := repO_lstH s h
    exact .base (.lst h2)
  | kl ds =>
    rcases h with ⟨a, vs, rfl, h2, _⟩ | ⟨_, _, _, _, q⟩
    · rcases sqL_mono s h2 with (h2 | ⟨o, h2⟩) | ⟨o, its, n, h2, h3, _⟩
      · exact .base (.lst h2)
      · exact .base (.frz h2)
      · exact .kList h2 h3
    · exact q.elim
  | dk ks ds =>
    rcases h with ⟨a, vs, rfl, q2, _⟩ | ⟨l, ho, rfl, q2, vs, q3, _⟩
    · exact .base (.dK (s _ _ q2))
    · subst q3; exact .base (.dK q2)
  | dt ks ds =>
    rcases h with ⟨a, vs, rfl, q2, _⟩ | ⟨l, ho, rfl, q2, vs, q3, _⟩
    · exact .base (.dT (s _ _ q2))
    · subst q3; exact .base (.dT q2)
  | ins C ns fs => exact absurd rfl (hd C ns fs)
def pIsi (T : String) (p : Ev → Rs D) : Ev → Rs D := fun ρ => (p ρ).bind fun d => if isiOk (tyN d) T then .ok (.bl (isiB (tyN d) T)) else .no
theorem evals_isi {T : String} {ta : TE} {p : Ev → Rs D} (h : Evals E W (GL E) ta p) : Evals E W (GS E) (tCB (rIsi E.K) (tCons ta (tCons (tC (.ty T)) tNil))) (pIsi T p) := by
  intro B F H σ ρ Q s sb r post
  show ta σ H _
  refine Evals.seq h s sb r post fun F1 H1 d v e1 x1 sb1 r1 gg post1 => ?_
  by_cases c : isiOk (tyN d) T = true
  · rw [if_pos c] at post1
    have nd : ∀ C ns fs, d ≠ .ins C ns fs := fun C ns fs e => by subst e; simp [isiOk, tyN] at c
    exact ⟨v, .ty T, _, _, isiB (tyN d) T, rfl, .ty T, tyx_of x1.fh nd gg, kit_ty (kit_is c), ev_ok x1.fh post1 rfl⟩
  · rw [if_neg c] at post1; exact post1.elim
theorem xe_isi {a b : Expr} {T : String} {p pos : Pos} {pa : Ev → Rs D} (c : Ctx X E W k) (hg : ∀ i, Gl (X i) "isinstance") (hm : ∀ i, (X i).mg "isinstance" = none) (ha : XL X E W a pa) (hb : ∀ i, PE (X i) b (tC (.ty T)))
    (h1 : ∀ i, starEach [a, b] (X i).env = (false, eval a (X i).env) :: starEach [b] (X i).env := by intro _; rfl) (h2 : ∀ i, starEach [b] (X i).env = (false, eval b (X i).env) :: starEach [] (X i).env := by intro _; rfl) (hpl : ∀ i, (backTo pos (starEach [b] (X i).env)).any (·.1) = false := by intro _; rfl) : XE X E W (.Call (.Name "isinstance" p) [a, b] [] pos) (pIsi T pa) := by
  obtain ⟨t, a1, a2⟩ := ha
  exact ⟨tCB (rIsi E.K) (tCons t (tCons (tC (.ty T)) tNil)), fun i => by rw [← c.K i]; exact pe_callB call_isi (hg i) (hm i) (by decide +kernel) (pa_cons (a1 i) (pa_cons (hb i) pa_nil (h2 i)) (h1 i)) (he := h1 i) (hpl := hpl i), evals_isi a2⟩
theorem pe_ty {Y : Cx} {x : Str} {T : String} {pos : Pos} (hg : Gl Y x) (hm : Y.mg x = none) (hv : bootBuiltins x = some (.type T)) (hn : x ≠ "__name__" := by decide) (hd : (x == ("__debug__" : Str)) = false := by decide) : PE Y (.Name x pos) (tC (.ty T)) := pe_bltn hg hm hv rfl hn hd
/-! isinstance(x, (T1, T2, ..)) -/
def isiAny (a : String) : List String → Bool
  | [] => false
  | b :: r => isiB a b || isiAny a r
theorem kitAny_is {K : PySem.W.Frag} {a : String} : ∀ {Ts : List String}, (Ts.all fun b => isiOk a b) = true → PySem.W.kitAny K (.type a) (Ts.map Value.type) = some (isiAny a Ts)
  | [], _ => rfl
  | b :: r, h => by
    rw [List.all_cons, Bool.and_eq_true] at h
    refine kitAny_cons (kit_ty (kit_is h.1)) (fun e => ?_) (fun e => ?_)
    · rw [kitAny_is h.2]
      show some (isiAny a r) = some (isiB a b || isiAny a r)
      rw [e, Bool.false_or]
    · show (isiB a b || isiAny a r) = true
      rw [e, Bool.true_or]
def pIsiT (Ts : List String) (p : Ev → Rs D) : Ev → Rs D := fun ρ => (p ρ).bind fun d => if Ts.all fun b => isiOk (tyN d) b then .ok (.bl (isiAny (tyN d) Ts)) else .no
inductive Tys {I : Type} (X : I → Cx) : List Expr → List String → Prop
  | nil : Tys X [] []
  | cons {e : Expr} {T : String} {es : List Expr} {Ts : List String} (h : ∀ i, PE (X i) e (tC (.ty T))) (hs : ∀ i, starEach (e :: es) (X i).env = (false, eval e (X i).env) :: starEach es (X i).env) (t : Tys X es Ts) : Tys X (e :: es) (T :: Ts)
def tTys : List String → TA
  | [] => tNil
  | T :: Ts => tCons (tC (.ty T)) (tTys Ts)
theorem Tys.pa {es : List Expr} {Ts : List String} (h : Tys X es Ts) : ∀ i, PA (X i) es (tTys Ts) := by
  induction h with
  | nil => exact fun _ => pa_nil
  | cons h hs t ih => exact fun i => pa_cons (h i) (ih i) (hs i)
theorem tTys_run {σ : L2.St} {H : Hp} {Q : List V → Hp → Prop} : ∀ {Ts : List String}, Q (Ts.map V.ty) H → tTys Ts σ H Q
  | [], h => h
  | T :: Ts, h => by
    show tTys Ts σ H fun vs H1 => Q (.ty T :: vs) H1
    exact tTys_run (Q := fun vs H1 => Q (.ty T :: vs) H1) h
theorem cls_tys : ∀ Ts : List String, Paired ClsV (Ts.map V.ty) (Ts.map Value.type)
  | [] => .nil
  | T :: Ts => .cons (.ty T) (cls_tys Ts)
theorem xe_isiT {a : Expr} {es : List Expr} {Ts : List String} {kk : Nat} {p tp pos : Pos} {pa : Ev → Rs D} (c : Ctx X E W k) (hg : ∀ i, Gl (X i) "isinstance") (hm : ∀ i, (X i).mg "isinstance" = none) (ha : XL X E W a pa) (hb : Tys X es Ts) (hT : Ts ≠ []) (hz : Ts.length ≤ 100)
    (h1 : ∀ i, starEach [a, .Tuple es kk tp] (X i).env = (false, eval a (X i).env) :: starEach [.Tuple es kk tp] (X i).env := by intro _; rfl) (h2 : ∀ i, starEach [.Tuple es kk tp] (X i).env = (false, eval (.Tuple es kk tp) (X i).env) :: starEach [] (X i).env := by intro _; rfl) (hpl : ∀ i, (backTo pos (starEach [.Tuple es kk tp] (X i).env)).any (·.1) = false := by intro _; rfl) : XE X E W (.Call (.Name "isinstance" p) [a, .Tuple es kk tp] [] pos) (pIsiT Ts pa) := by
  obtain ⟨t, a1, a2⟩ := ha
  refine ⟨tCB (rIsiT E.K) (tCons t (tCons (tTup (tTys Ts)) tNil)), fun i => by rw [← c.K i]; exact pe_callB call_isiT (hg i) (hm i) (by decide +kernel) (pa_cons (a1 i) (pa_cons (pe_tup (hb.pa i)) pa_nil (h2 i)) (h1 i)) (he := h1 i) (hpl := hpl i), fun B F H σ ρ Q s sb r post => ?_⟩
  show t σ H _
  refine Evals.seq a2 s sb r post fun F1 H1 d v e1 x1 sb1 r1 gg post1 => ?_
  by_cases c : (Ts.all fun b => isiOk (tyN d) b) = true
  · rw [if_pos c] at post1
    show tTys Ts σ H1 _
    refine tTys_run ⟨by rw [List.length_map]; exact Nat.le_trans hz (by decide), fun p hp => ?_⟩
    have nd : Ts ≠ [] → ∀ C ns fs, d ≠ .ins C ns fs := fun h0 C ns fs e => by
      subst e
      cases Ts with
      | nil => exact h0 rfl
      | cons T _ =>
        rw [List.all_cons, Bool.and_eq_true] at c
        have c1 := c.1
        simp [isiOk, tyN] at c1
    exact ⟨v, p, _, _, _, isiAny (tyN d) Ts, rfl, upd_same, cls_tys Ts, tyx_of (same_upd x1.fh hp) (nd hT) (gg.mono (Ext.newH x1.fh hp)), kitAny_is c, post1 F1 _ _ (Ext.newH x1.fh hp) rfl⟩
  · rw [if_neg c] at post1; exact post1.elim
end DL
namespace DL
open PySem PySem.Spec L2
/-- a def of the text computes fn -/
structure FnX (P : Program) (w : World) (E : Am) (mg : Str → Option Value) (base : Heap) (k : Nat) (f : Addr) (ps : List Str) (fn : List D → Rs D) : Prop where
  ex : ∃ fd, FnOk P w E.K mg base (L2.CX P w) k f fd ps (spF E ps.length fn) ∧ Binds E.K fd ps [] ∧ PySem.W.keepIn E.K (.ref f) = true
theorem fnX_mk {P : Program} {w : World} {E : Am} {mg : Str → Option Value} {base : Heap} {x qual : Str} {params : Arguments} {body : List Stmt} {sc : Scope} {dvs : List V} {kws : List (Str × V)} {f : Addr} {fd : FuncData} {N ps : List Str} {k m : Nat} {p : Ev → Fl} {fn : List D → Rs D} (F : FunD E.K x qual params body sc dvs kws f fd) (S : FnScope N ps sc) (hm : N.length = m) (hfn : fn = runF m p)
    (B : Binds E.K fd ps []) (hb : ∀ (cdv : Value) (A : Around) (outer : List Env) (s : Shared) (H : Hp) (Ex : XK), Room k (A.deeper (PyProof.Rows.envOfC qual sc s.heap.objs.size f cdv)) → XSs (Bd P w E mg base N qual sc f cdv A outer s H Ex) E (WF Ex) body p) : FnX P w E mg base (k + 1) f ps fn := by
  subst hm hfn
  exact ⟨fd, fn_okD F S hb, B, F.kp⟩
theorem fnOk_mk {P : Program} {w : World} {E : Am} {mg : Str → Option Value} {base : Heap} {x qual : Str} {params : Arguments} {body : List Stmt} {sc : Scope} {dvs : List V} {kws : List (Str × V)} {f : Addr} {fd : FuncData} {N ps : List Str} {k m n : Nat} {p : Ev → Fl} {fn : List D → Rs D} (F : FunD E.K x qual params body sc dvs kws f fd) (S : FnScope N ps sc) (hm : N.length = m) (hn : ps.length = n) (hfn : fn = runF m p)
    (hb : ∀ (cdv : Value) (A : Around) (outer : List Env) (s : Shared) (H : Hp) (Ex : XK), Room k (A.deeper (PyProof.Rows.envOfC qual sc s.heap.objs.size f cdv)) → XSs (Bd P w E mg base N qual sc f cdv A outer s H Ex) E (WF Ex) body p) : FnOk P w E.K mg base (L2.CX P w) (k + 1) f fd ps (spF E n fn) := by
  subst hm hn hfn
  exact fn_okD F S hb
theorem fnOk_nox {P : Program} {w : World} {K : PySem.W.Frag} {mg : Str → Option Value} {base : Heap} {k : Nat} {f : Addr} {fd : FuncData} {ps : List Str} {sp : Sp} (F : FnOk P w K mg base (L2.CX P w) k f fd ps sp) : FnOk P w K mg base CX0 k f fd ps (fun vs H Q _ => sp vs H Q fun _ _ _ => False) :=
  ⟨fun vs H Q Ex h => F.len vs H Q _ h, fun A outer s H args us vs Q Ex hr e0 hb r h => PySem.codeAny_mono (F.run A outer s H args us vs Q _ hr e0 hb r h) fun res s' hq => by
    cases res with
    | error e =>
      obtain ⟨_, _, _, _, _, _, _, _, _, _, _, _, z⟩ := hq
      exact z.elim
    | ok fl => cases fl <;> exact hq⟩
abbrev mkE (K : PySem.W.Frag) : Am := ⟨K, He.ga K⟩
def pB (p : Ev → Rs D) : Ev → Rs Bool := fun ρ => (p ρ).bind toB
def pTr (p : Ev → Rs D) : Ev → Rs Bool := fun ρ => (p ρ).bind tru
def pFrz (i : Nat) (p : Ev → Fl) : Ev → Fl := fun ρ => p (frzE i ρ)
def fuelI (i : Nat) (ρ : Ev) : Nat := match ρ[i]? with | some (.dat (.int n)) => n.natAbs + 1 | _ => 0
section
variable {I : Type} {X : I → Cx} {E : Am} {W : WX} {k : Nat} {mg : Str → Option Value}
theorem zt_cmp {op : CmpOp} {a b : Expr} {pos : Pos} {pa pb : Ev → Rs D} {f : D → D → Rs D} (h : CmpR X E op f) (ha : XL X E W a pa) (hb : XL X E W b pb) (hm : behindInMarks op b = false) : XT X E W (.Compare a [op] [b] pos) (pB (pBin f pa pb)) := yt_cmp h ha hb hm
theorem zt_chain {op op' : CmpOp} {a b d : Expr} {pos : Pos} {pa pb pd : Ev → Rs D} {f f' : D → D → Rs D} (h : CmpR X E op f) (h' : CmpR X E op' f') (ha : XL X E W a pa) (hb : XL X E W b pb) (hd : XL X E W d pd) (hm : lastMarks [op, op'] [b, d] = false := by with_unfolding_all rfl) : XT X E W (.Compare a [op, op'] [b, d] pos) (pB (pChain f f' pa pb pd)) := yt_chain h h' ha hb hd hm
theorem zt_val {a : Expr} {p : Ev → Rs D} (h : XL X E W a p) (c : Ctx X E W k) (he : ∀ i whole, isTrue a (X i).env whole = (do let v ← whole; standAt a.pos; holding [v] (truthy v)) := by intro _ _; rfl) : XT X E W a (pTr p) := xt_val h c he
theorem zss_frz (i : Nat) {sts : List Stmt} {p : Ev → Fl} (h : XSs X E W sts p) : XSs X E W sts (pFrz i p) := xss_frz i h
/-- not e, by truth -/
def pNotT (p : Ev → Rs Bool) : Ev → Rs D := fun ρ => (p ρ).bind fun b => .ok (.bl (!b))
section
variable {e e2 : Expr} {p pos : Pos} {q : Ev → Rs (List D)}
theorem ye_len (c : Ctx X E W k) (hn : mg "len" = none) (hm : ∀ i, (X i).mg "len" = mg "len") (hg : ∀ i, Gl (X i) "len") (ha : XAL X E W [e] q)
    (he : ∀ i, starEach [e] (X i).env = (false, eval e (X i).env) :: starEach [] (X i).env := by intro _; rfl) (hpl : ∀ i, (backTo pos (starEach [] (X i).env)).any (·.1) = false := by intro _; rfl) : XE X E W (.Call (.Name "len" p) [e] [] pos) (pCall fLen q) :=
  xe_callB (fun i => by rw [← c.K i]; exact call_lenA) cals_len hg (fun i => (hm i).trans hn) PySem.boot_len ha (he := he) (hpl := hpl)
theorem ye_abs (c : Ctx X E W k) (hn : mg "abs" = none) (hm : ∀ i, (X i).mg "abs" = mg "abs") (hg : ∀ i, Gl (X i) "abs") (ha : XAL X E W [e] q)
    (he : ∀ i, starEach [e] (X i).env = (false, eval e (X i).env) :: starEach [] (X i).env := by intro _; rfl) (hpl : ∀ i, (backTo pos (starEach [] (X i).env)).any (·.1) = false := by intro _; rfl) : XE X E W (.Call (.Name "abs" p) [e] [] pos) (pCall fAbs q) :=
  xe_callB (fun i => call_abs) cals_abs hg (fun i => (hm i).trans hn) (by decide +kernel) ha (he := he) (hpl := hpl)
theorem ye_sum (c : Ctx X E W k) (hn : mg "sum" = none) (hm : ∀ i, (X i).mg "sum" = mg "sum") (hg : ∀ i, Gl (X i) "sum") (ha : XAL X E W [e] q)
    (he : ∀ i, starEach [e] (X i).env = (false, eval e (X i).env) :: starEach [] (X i).env := by intro _; rfl) (hpl : ∀ i, (backTo pos (starEach [] (X i).env)).any (·.1) = false := by intro _; rfl) : XE X E W (.Call (.Name "sum" p) [e] [] pos) (pCall fSum q) :=
  xe_callB (fun i => by rw [← c.K i]; exact cr_sum (c.calm i)) cals_sum hg (fun i => (hm i).trans hn) (by decide +kernel) ha (he := he) (hpl := hpl)
theorem ye_any (c : Ctx X E W k) (hn : mg "any" = none) (hm : ∀ i, (X i).mg "any" = mg "any") (hg : ∀ i, Gl (X i) "any") (ha : XAL X E W [e] q)
    (he : ∀ i, starEach [e] (X i).env = (false, eval e (X i).env) :: starEach [] (X i).env := by intro _; rfl) (hpl : ∀ i, (backTo pos (starEach [] (X i).env)).any (·.1) = false := by intro _; rfl) : XE X E W (.Call (.Name "any" p) [e] [] pos) (pCall fAny q) :=
  xe_callB (fun i => by rw [← c.K i]; exact cr_any (c.calm i)) cals_any hg (fun i => (hm i).trans hn) (by decide +kernel) ha (he := he) (hpl := hpl)
theorem ye_all (c : Ctx X E W k) (hn : mg "all" = none) (hm : ∀ i, (X i).mg "all" = mg "all") (hg : ∀ i, Gl (X i) "all") (ha : XAL X E W [e] q)
    (he : ∀ i, starEach [e] (X i).env = (false, eval e (X i).env) :: starEach [] (X i).env := by intro _; rfl) (hpl : ∀ i, (backTo pos (starEach [] (X i).env)).any (·.1) = false := by intro _; rfl) : XE X E W (.Call (.Name "all" p) [e] [] pos) (pCall fAll q) :=
  xe_callB (fun i => by rw [← c.K i]; exact cr_all (c.calm i)) cals_all hg (fun i => (hm i).trans hn) (by decide +kernel) ha (he := he) (hpl := hpl)
theorem ye_int (c : Ctx X E W k) (hn : mg "int" = none) (hm : ∀ i, (X i).mg "int" = mg "int") (hg : ∀ i, Gl (X i) "int") (ha : XAL X E W [e] q)
    (he : ∀ i, starEach [e] (X i).env = (false, eval e (X i).env) :: starEach [] (X i).env := by intro _; rfl) (hpl : ∀ i, (backTo pos (starEach [] (X i).env)).any (·.1) = false := by intro _; rfl) : XE X E W (.Call (.Name "int" p) [e] [] pos) (pCall fInt q) :=
  xe_callTy (fun i => call_int1) cals_int hg (fun i => (hm i).trans hn) (by decide +kernel) ha (he := he) (hpl := hpl)
theorem ye_tuple (c : Ctx X E W k) (hn : mg "tuple" = none) (hm : ∀ i, (X i).mg "tuple" = mg "tuple") (hg : ∀ i, Gl (X i) "tuple") (ha : XAL X E W [e] q)
    (he : ∀ i, starEach [e] (X i).env = (false, eval e (X i).env) :: starEach [] (X i).env := by intro _; rfl) (hpl : ∀ i, (backTo pos (starEach [] (X i).env)).any (·.1) = false := by intro _; rfl) : XE X E W (.Call (.Name "tuple" p) [e] [] pos) (pCall fTuple q) :=
  xe_callTy (fun i => by rw [← c.K i]; exact call_tuple_of) cals_tuple hg (fun i => (hm i).trans hn) (by decide +kernel) ha (he := he) (hpl := hpl)
theorem yn_list (c : Ctx X E W k) (hn : mg "list" = none) (hm : ∀ i, (X i).mg "list" = mg "list") (hg : ∀ i, Gl (X i) "list") (ha : XAL X E W [e] q)
    (he : ∀ i, starEach [e] (X i).env = (false, eval e (X i).env) :: starEach [] (X i).env := by intro _; rfl) (hpl : ∀ i, (backTo pos (starEach [] (X i).env)).any (·.1) = false := by intro _; rfl) : XN X E W (.Call (.Name "list" p) [e] [] pos) (pCall fList q) :=
  xn_callTy (fun i => by rw [← c.K i]; exact call_list_of) cals_list hg (fun i => (hm i).trans hn) (by decide +kernel) ha (he := he) (hpl := hpl)
theorem yn_sorted (c : Ctx X E W k) (hn : mg "sorted" = none) (hm : ∀ i, (X i).mg "sorted" = mg "sorted") (hg : ∀ i, Gl (X i) "sorted") (ha : XAL X E W [e] q)
    (he : ∀ i, starEach [e] (X i).env = (false, eval e (X i).env) :: starEach [] (X i).env := by intro _; rfl) (hpl : ∀ i, (backTo pos (starEach [] (X i).env)).any (·.1) = false := by intro _; rfl) : XN X E W (.Call (.Name "sorted" p) [e] [] pos) (pCall fSorted q) :=
  xn_callB (fun i => by rw [← c.K i]; exact cr_srt (c.hu i)) cals_sorted hg (fun i => (hm i).trans hn) (by decide +kernel) ha (he := he) (hpl := hpl)
theorem ye_max2 (c : Ctx X E W k) (hn : mg "max" = none) (hm : ∀ i, (X i).mg "max" = mg "max") (hg : ∀ i, Gl (X i) "max") (ha : XAL X E W [e, e2] q)
    (he : ∀ i, starEach [e, e2] (X i).env = (false, eval e (X i).env) :: starEach [e2] (X i).env := by intro _; rfl) (hpl : ∀ i, (backTo pos (starEach [e2] (X i).env)).any (·.1) = false := by intro _; rfl) : XE X E W (.Call (.Name "max" p) [e, e2] [] pos) (pCall fMax2 q) :=
  xe_callB (fun i => call_max2 (c.calm i)) cals_max2 hg (fun i => (hm i).trans hn) (by decide +kernel) ha (he := he) (hpl := hpl)
theorem ye_min2 (c : Ctx X E W k) (hn : mg "min" = none) (hm : ∀ i, (X i).mg "min" = mg "min") (hg : ∀ i, Gl (X i) "min") (ha : XAL X E W [e, e2] q)
    (he : ∀ i, starEach [e, e2] (X i).env = (false, eval e (X i).env) :: starEach [e2] (X i).env := by intro _; rfl) (hpl : ∀ i, (backTo pos (starEach [e2] (X i).env)).any (·.1) = false := by intro _; rfl) : XE X E W (.Call (.Name "min" p) [e, e2] [] pos) (pCall fMin2 q) :=
  xe_callB (fun i => call_min2 (c.calm i)) cals_min2 hg (fun i => (hm i).trans hn) (by decide +kernel) ha (he := he) (hpl := hpl)
end
end
end DL
end

section
set_option linter.all false
set_option maxRecDepth 100000
set_option maxHeartbeats 4000000
set_option exponentiation.threshold 2000
namespace DL
open PySem L2
/-! ## computing with the plain functions -/
theorem log2_lt {n : Nat} {k : Nat} (h : n < 2 ^ k) (hk : 0 < k) : n.log2 < k := PySem.Flt.log2_lt_of hk h
@[simp] theorem fMod_ok {i j : Int} (h : 0 < j) : fMod (.int i) (.int j) = .ok (.int (i % j)) := by
  show (if decide (0 < j) then Rs.ok (D.int (i % j)) else .no) = _
  rw [decide_eq_true h]; rfl
@[simp] theorem fDiv_ok {i j : Int} (h : 0 < j) (h2 : j < 10 ^ 200) : fDiv (.int i) (.int j) = .ok (.int (i / j)) := by
  have hl : j.natAbs.log2 < 9000 := by
    have e : (10 : Int) ^ 200 ≤ 2 ^ 1000 := by decide
    have h3 : j.natAbs < 2 ^ 1000 := by
      have e2 : ((2 : Int) ^ 1000) = ((2 ^ 1000 : Nat) : Int) := by norm_cast
      omega
    exact Nat.lt_trans (log2_lt h3 (by decide)) (by decide)
  show (if divOk i j then Rs.ok (D.int (i / j)) else .no) = _
  unfold divOk
  rw [decide_eq_true h, decide_eq_true hl]; rfl
theorem fMul_l {i j : Int} (h : i.natAbs < 2 ^ 64) : fMul (.int i) (.int j) = .ok (.int (i * j)) := by
  show (if mulOk i j then Rs.ok (D.int (i * j)) else .no) = _
  unfold mulOk
  rw [decide_eq_true h]; rfl
theorem fMul_r {i j : Int} (h : j.natAbs < 2 ^ 64) : fMul (.int i) (.int j) = .ok (.int (i * j)) := by
  show (if mulOk i j then Rs.ok (D.int (i * j)) else .no) = _
  unfold mulOk
  rw [decide_eq_true h, Bool.or_true]; rfl
theorem fMul_w {i j : Int} (h : i.natAbs < 10 ^ 300) (h2 : j.natAbs < 10 ^ 300) : fMul (.int i) (.int j) = .ok (.int (i * j)) := by
  have e : (10 : Nat) ^ 300 ≤ 2 ^ 1000 := by decide
  have h3 := log2_lt (Nat.lt_of_lt_of_le h e) (by decide)
  have h4 := log2_lt (Nat.lt_of_lt_of_le h2 e) (by decide)
  show (if mulOk i j then Rs.ok (D.int (i * j)) else .no) = _
  unfold mulOk
  have h5 : i.natAbs.log2 + j.natAbs.log2 < 1000000 := by omega
  rw [decide_eq_true h5, Bool.or_true]; rfl
@[simp] theorem fAdd_int {i j : Int} : fAdd (.int i) (.int j) = .ok (.int (i + j)) := rfl
@[simp] theorem fSub_int {i j : Int} : fSub (.int i) (.int j) = .ok (.int (i - j)) := rfl
@[simp] theorem fLt_int {i j : Int} : fLt (.int i) (.int j) = .ok (.bl (decide (i < j))) := rfl
@[simp] theorem fLe_int {i j : Int} : fLe (.int i) (.int j) = .ok (.bl (decide (i ≤ j))) := rfl
@[simp] theorem fGt_int {i j : Int} : fGt (.int i) (.int j) = .ok (.bl (decide (j < i))) := rfl
@[simp] theorem fGe_int {i j : Int} : fGe (.int i) (.int j) = .ok (.bl (decide (j ≤ i))) := rfl
@[simp] theorem fEq_int {i j : Int} : fEq (.int i) (.int j) = .ok (.bl (decide (i = j))) := by
  show Rs.ok (D.bl (i == j)) = _
  rfl
@[simp] theorem fNe_int {i j : Int} : fNe (.int i) (.int j) = .ok (.bl (!decide (i = j))) := by
  show Rs.ok (D.bl (!(i == j))) = _
  rfl
@[simp] theorem fEq_bl {i j : Bool} : fEq (.bl i) (.bl j) = .ok (.bl (i == j)) := rfl
@[simp] theorem fNe_bl {i j : Bool} : fNe (.bl i) (.bl j) = .ok (.bl (!(i == j))) := rfl
@[simp] theorem fNeg_int {i : Int} : fNeg (.int i) = .ok (.int (-i)) := rfl
@[simp] theorem fAbs_int {i : Int} : fAbs [.int i] = .ok (.int (if i < 0 then -i else i)) := rfl
@[simp] theorem fInt_int {i : Int} : fInt [.int i] = .ok (.int i) := rfl
@[simp] theorem fInt_bl {i : Bool} : fInt [.bl i] = .ok (.int (if i then 1 else 0)) := rfl
@[simp] theorem fMax2_int {i j : Int} : fMax2 [.int i, .int j] = .ok (.int (if j > i then j else i)) := rfl
@[simp] theorem fMin2_int {i j : Int} : fMin2 [.int i, .int j] = .ok (.int (if j < i then j else i)) := rfl
@[simp] theorem fGcd_int {i j : Int} : fGcd [.int i, .int j] = .ok (.int ((Nat.gcd i.natAbs j.natAbs : Nat) : Int)) := rfl
@[simp] theorem fLen_lst {ds : List D} : fLen [.lst ds] = .ok (.int ds.length) := rfl
@[simp] theorem fLen_kl {ds : List D} : fLen [.kl ds] = .ok (.int ds.length) := rfl
@[simp] theorem fLen_tup {ds : List D} : fLen [.tup ds] = .ok (.int ds.length) := rfl
@[simp] theorem fList_lst {ds : List D} : fList [.lst ds] = .ok (.lst ds) := rfl
@[simp] theorem fList_kl {ds : List D} : fList [.kl ds] = .ok (.lst ds) := rfl
@[simp] theorem fList_tup {ds : List D} : fList [.tup ds] = .ok (.lst ds) := rfl
@[simp] theorem fTuple_lst {ds : List D} : fTuple [.lst ds] = .ok (.tup ds) := rfl
@[simp] theorem fTuple_kl {ds : List D} : fTuple [.kl ds] = .ok (.tup ds) := rfl
@[simp] theorem fTuple_tup {ds : List D} : fTuple [.tup ds] = .ok (.tup ds) := rfl
@[simp] theorem toB_bl {b : Bool} : toB (.bl b) = .ok b := rfl
@[simp] theorem tru_bl {b : Bool} : tru (.bl b) = .ok b := rfl
@[simp] theorem tru_non : tru .non = .ok false := rfl
@[simp] theorem tru_lst {ds : List D} : tru (.lst ds) = .ok (!ds.isEmpty) := rfl
@[simp] theorem tru_tup {ds : List D} : tru (.tup ds) = .ok (!ds.isEmpty) := rfl
theorem sz_eq : sizeLine = 16777216 := sizeLine_eq
theorem fPow_ok {i j : Int} {r : Int} (h : powOk i j = true) (e : i ^ j.toNat = r) : fPow (.int i) (.int j) = .ok (.int r) := by
  show (if powOk i j then Rs.ok (D.int (i ^ j.toNat)) else .no) = _
  rw [h, e]; rfl
@[simp] theorem pow10_18 : fPow (.int 10) (.int 18) = .ok (.int 1000000000000000000) := fPow_ok (by decide +kernel) (by decide +kernel)
@[simp] theorem pow10_30 : fPow (.int 10) (.int 30) = .ok (.int 1000000000000000000000000000000) := fPow_ok (by decide +kernel) (by decide +kernel)
@[simp] theorem iterD_lst {ds : List D} : iterD (.lst ds) = some ds := rfl
@[simp] theorem iterD_kl {ds : List D} : iterD (.kl ds) = some ds := rfl
@[simp] theorem iterD_tup {ds : List D} : iterD (.tup ds) = some ds := rfl
@[simp] theorem gN_eq {i : Nat} {d : D} {ρ : Ev} : gN i d ρ = some (ρ.set i (.dat d)) := rfl
@[simp] theorem gTp_tup {q : List D → Ev → Option Ev} {ds : List D} {ρ : Ev} : gTp q (.tup ds) ρ = q ds ρ := rfl
@[simp] theorem gsCons_cons {p : D → Ev → Option Ev} {q : List D → Ev → Option Ev} {d : D} {r : List D} {ρ : Ev} : gsCons p q (d :: r) ρ = (p d ρ).bind fun ρ1 => q r ρ1 := rfl
@[simp] theorem gsNil_nil {ρ : Ev} : gsNil [] ρ = some ρ := rfl
@[simp] theorem itemsL_lst {ds : List D} : itemsL (.lst ds) = some ds := rfl
@[simp] theorem itemsL_kl {ds : List D} : itemsL (.kl ds) = some ds := rfl
@[simp] theorem forL_nil {g : D → Ev → Option Ev} {body : Ev → Fl} {ρ : Ev} : forL g body [] ρ = .nx ρ := rfl
theorem forL_step {g : D → Ev → Option Ev} {body : Ev → Fl} {d : D} {ds : List D} {ρ ρ1 ρ2 : Ev} (h1 : g d ρ = some ρ1) (h2 : body ρ1 = .nx ρ2) : forL g body (d :: ds) ρ = forL g body ds ρ2 := by
  show (match g d ρ with | none => Fl.no | some ρ1 => match body ρ1 with | .nx ρ2 => forL g body ds ρ2 | .ct ρ2 => forL g body ds ρ2 | .bk ρ2 => .nx ρ2 | .rt d => .rt d | .err c x ρ2 => .err c x ρ2 | .no => .no) = _
  rw [h1]; simp only; rw [h2]
theorem forL_ret {g : D → Ev → Option Ev} {body : Ev → Fl} {d : D} {ds : List D} {ρ ρ1 : Ev} {r : D} (h1 : g d ρ = some ρ1) (h2 : body ρ1 = .rt r) : forL g body (d :: ds) ρ = .rt r := by
  show (match g d ρ with | none => Fl.no | some ρ1 => match body ρ1 with | .nx ρ2 => forL g body ds ρ2 | .ct ρ2 => forL g body ds ρ2 | .bk ρ2 => .nx ρ2 | .rt d => .rt d | .err c x ρ2 => .err c x ρ2 | .no => .no) = _
  rw [h1]; simp only; rw [h2]
theorem forL_brk {g : D → Ev → Option Ev} {body : Ev → Fl} {d : D} {ds : List D} {ρ ρ1 ρ2 : Ev} (h1 : g d ρ = some ρ1) (h2 : body ρ1 = .bk ρ2) : forL g body (d :: ds) ρ = .nx ρ2 := by
  show (match g d ρ with | none => Fl.no | some ρ1 => match body ρ1 with | .nx ρ2 => forL g body ds ρ2 | .ct ρ2 => forL g body ds ρ2 | .bk ρ2 => .nx ρ2 | .rt d => .rt d | .err c x ρ2 => .err c x ρ2 | .no => .no) = _
  rw [h1]; simp only; rw [h2]
theorem whL_step {c : Ev → Rs Bool} {body : Ev → Fl} {n : Nat} {ρ ρ2 : Ev} (h1 : c ρ = .ok true) (h2 : body ρ = .nx ρ2) : whL c body (n + 1) ρ = whL c body n ρ2 := by
  show (match c ρ with
    | .ok true => (match body ρ with
      | .nx ρ2 => whL c body n ρ2
      | .ct ρ2 => whL c body n ρ2
      | .bk ρ2 => .nx ρ2
      | .rt d => .rt d
      | .err c x ρ2 => .err c x ρ2
      | .no => .no)
    | .ok false => .nx ρ
    | .err c x => .err c x ρ
    | .no => .no) = _
  rw [h1]; simp only; rw [h2]
theorem whL_end {c : Ev → Rs Bool} {body : Ev → Fl} {n : Nat} {ρ : Ev} (h1 : c ρ = .ok false) : whL c body (n + 1) ρ = .nx ρ := by
  unfold whL; rw [h1]
/-- a comprehension without a test -/
theorem lcL_map {g : D → Ev → Option Ev} {pe : Ev → Rs D} {ρ : Ev} {h : D → D} : ∀ {ds : List D}, (∀ d ∈ ds, ∃ ρ1, g d ρ = some ρ1 ∧ pe ρ1 = .ok (h d)) → lcL g pYes pe ρ ds = some (ds.map h)
  | [], _ => rfl
  | d :: ds, H => by
    obtain ⟨ρ1, h1, h2⟩ := H d List.mem_cons_self
    unfold lcL
    rw [h1]
    simp only [pYes]
    rw [h2, lcL_map fun d hd => H d (List.mem_cons_of_mem _ hd)]
    rfl
/-- .. with one -/
theorem lcL_filter {g : D → Ev → Option Ev} {pt : Ev → Rs Bool} {pe : Ev → Rs D} {ρ : Ev} {t : D → Bool} {h : D → D} : ∀ {ds : List D}, (∀ d ∈ ds, ∃ ρ1, g d ρ = some ρ1 ∧ pt ρ1 = .ok (t d) ∧ (t d = true → pe ρ1 = .ok (h d))) → lcL g pt pe ρ ds = some ((ds.filter t).map h)
  | [], _ => rfl
  | d :: ds, H => by
    obtain ⟨ρ1, h1, h2, h3⟩ := H d List.mem_cons_self
    have ih := lcL_filter (fun d hd => H d (List.mem_cons_of_mem _ hd))
    unfold lcL
    rw [h1]
    simp only
    rw [h2]
    cases e : t d with
    | true =>
      simp only
      rw [h3 e, ih, List.filter_cons_of_pos e]; rfl
    | false =>
      simp only
      rw [ih, List.filter_cons_of_neg (by simp [e])]
theorem ixN_nat {n j : Nat} (h : j < n) : ixN n (j : Int) = some j := by
  unfold ixN
  rw [if_pos (by omega), if_pos (by omega)]
  simp
theorem fIx_lst {ds : List D} {i : Int} {d : D} (h0 : 0 ≤ i) (h : ds[i.toNat]? = some d) : fIx (.lst ds) (.int i) = .ok d := by
  have hi : i.toNat < ds.length := (List.getElem?_eq_some_iff.mp h).1
  have e : atI ds i = some d := by
    unfold atI
    have : i = ((i.toNat : Nat) : Int) := by omega
    rw [this, ixN_nat hi]
    simpa using h
  show (match items (.lst ds) with | some es => (match atI es i with | some x => Rs.ok x | none => .no) | none => .no) = _
  simp only [items, e]
theorem fIx_tup {ds : List D} {i : Int} {d : D} (h0 : 0 ≤ i) (h : ds[i.toNat]? = some d) : fIx (.tup ds) (.int i) = .ok d := by
  have hi : i.toNat < ds.length := (List.getElem?_eq_some_iff.mp h).1
  have e : atI ds i = some d := by
    unfold atI
    have : i = ((i.toNat : Nat) : Int) := by omega
    rw [this, ixN_nat hi]
    simpa using h
  show (match items (.tup ds) with | some es => (match atI es i with | some x => Rs.ok x | none => .no) | none => .no) = _
  simp only [items, e]
@[simp] theorem fIx_pair0 {a b : D} : fIx (.tup [a, b]) (.int 0) = .ok a := fIx_tup (by decide) rfl
@[simp] theorem fIx_pair1 {a b : D} : fIx (.tup [a, b]) (.int 1) = .ok b := fIx_tup (by decide) rfl
/-- a slice ahead -/
theorem sIx_some {n : Nat} {k : Nat} (d : Nat) : HT.sIx n d (some (k : Int)) = min k n := HT.sIx_nat n d k
theorem cutD_take {α : Type} (xs : List α) (k : Nat) : cutD xs none (some (k : Int)) = xs.take k := by
  unfold cutD
  rw [HT.sIx_nat]
  show (xs.drop 0).take (min k xs.length - 0) = _
  rw [List.drop_zero, Nat.sub_zero, Nat.min_comm]
  rw [List.take_eq_take_iff]
  omega
theorem cutD_drop {α : Type} (xs : List α) (k : Nat) : cutD xs (some (k : Int)) none = xs.drop k := by
  unfold cutD
  rw [HT.sIx_nat]
  show (xs.drop (min k xs.length)).take (xs.length - min k xs.length) = _
  by_cases h : k ≤ xs.length
  · rw [Nat.min_eq_left h, List.take_of_length_le (by simp)]
  · rw [Nat.min_eq_right (by omega), List.drop_of_length_le (Nat.le_refl _), List.drop_of_length_le (by omega)]; simp
end DL
end

section
set_option linter.all false
set_option maxRecDepth 100000
namespace DL
open PySem L2
/-- inverse(number, modulus) : 0 number, 1 modulus, 2 left, 3 right, 4 factor, 5 following, 6 quotient -/
def w_inverse_0 : Ev → Fl :=
  (pSeq (pSet 6 (pBin fDiv (pV 2) (pV 3)))
  (pSeq (pPar 2 3 (pCons (pV 3) (pCons (pBin fSub (pV 2) (pBin fMul (pV 6) (pV 3))) pNil)))
  (pPar 4 5 (pCons (pV 5) (pCons (pBin fSub (pV 4) (pBin fMul (pV 6) (pV 5))) pNil)))))
def wc_inverse_0 : Ev → Rs Bool :=
  (pB (pBin fGt (pV 3) (pC (.int 0))))
def p_inverse : Ev → Fl :=
  (pSeq (pPar 2 3 (pCons (pV 0) (pCons (pV 1) pNil)))
  (pSeq (pAsg (gTp (gsCons (gN 4) (gsCons (gN 5) gsNil))) (pTup (pCons (pC (.int 1)) (pCons (pC (.int 0)) pNil))))
  (pSeq (pWhile (fun ρ => fuelI 3 ρ) wc_inverse_0 w_inverse_0)
  (pRet (pBin fMod (pV 4) (pV 1))))))
def f_inverse : List D → Rs D := runF 7 p_inverse
/-- chinese(one, other) : 0 one, 1 other, 2 first, 3 size, 4 second, 5 width, 6 divisor, 7 step, 8 modulus -/
def p_chinese : Ev → Fl :=
  (pSeq (pAsg (gTp (gsCons (gN 2) (gsCons (gN 3) gsNil))) (pV 0))
  (pSeq (pAsg (gTp (gsCons (gN 4) (gsCons (gN 5) gsNil))) (pV 1))
  (pSeq (pSet 6 (pCall fGcd (pCons (pV 3) (pCons (pV 5) pNil))))
  (pSeq (pIfS (pB (pBin fNe (pBin fMod (pBin fSub (pV 4) (pV 2)) (pV 6)) (pC (.int 0))))
    (pRet (pC .non))
    pNext)
  (pSeq (pSet 7 (pBin fMul (pBin fDiv (pBin fSub (pV 4) (pV 2)) (pV 6)) (pFn (arity 2 f_inverse) [] (pCons (pBin fDiv (pV 3) (pV 6)) (pCons (pBin fDiv (pV 5) (pV 6)) pNil)))))
  (pSeq (pSet 8 (pBin fMul (pBin fDiv (pV 3) (pV 6)) (pV 5)))
  (pRet (pTup (pCons (pBin fMod (pBin fAdd (pV 2) (pBin fMul (pV 3) (pBin fMod (pV 7) (pBin fDiv (pV 5) (pV 6))))) (pV 8)) (pCons (pV 8) pNil))))))))))
def f_chinese : List D → Rs D := runF 9 p_chinese
/-- _law_row(_law_cell, _law_many) : 0 _law_cell, 1 _law_many, 2 _law_row_here, 3 _law_rest, 4 _law_mixed, 5 _law_k -/
def l_law_row_0 : Ev → Fl :=
  (pSeq (pSet 4 (pBin fMod (pCall fInt (pCons (pBin fAdd (pBin fMul (pV 4) (pC (.int 16807))) (pBin fMul (pC (.int 271)) (pBin fAdd (pV 5) (pC (.int 3))))) pNil)) (pC (.int 2147483629))))
  (pIfS (pB (pBin fGe (pCall fAbs (pCons (pV 0) pNil)) (pBin fPow (pC (.int 10)) (pC (.int 18)))))
    (pSeq (pApp 2 (pBin fMod (pCall fInt (pCons (pV 3) pNil)) (pC (.int 1009))))
  (pSet 3 (pBin fDiv (pV 3) (pC (.int 1009)))))
    (pApp 2 (pBin fMod (pCall fInt (pCons (pBin fDiv (pV 4) (pC (.int 7))) pNil)) (pC (.int 1009))))))
def p_law_row : Ev → Fl :=
  (pSeq (pSetO 2 (pLst pNil))
  (pSeq (pSet 3 (pCall fAbs (pCons (pV 0) pNil)))
  (pSeq (pSet 4 (pBin fMod (pCall fInt (pCons (pBin fAdd (pBin fMul (pV 3) (pC (.int 48271))) (pC (.int 69621))) pNil)) (pC (.int 2147483647))))
  (pSeq (pFor (pRg1 (pCons (pV 1) pNil)) (gN 5) l_law_row_0)
  (pFrz 2 (pRet (pV 2)))))))
def f_law_row : List D → Rs D := runF 6 p_law_row
/-- _law_numbers(_law_script, _law_many) : 0 _law_script, 1 _law_many, 2 _law_cells, 3 _law_each, 4 _law_numbers_here, 5 _law_cell, 6 _law_number -/
def l_law_numbers_0 : Ev → Fl :=
  (pApp 4 (pV 6))
def l_law_numbers_1 : Ev → Fl :=
  (pFor (pIter (pFn (arity 2 f_law_row) [] (pCons (pV 5) (pCons (pV 3) pNil)))) (gN 6) l_law_numbers_0)
def w_law_numbers_0 : Ev → Fl :=
  (pApp 4 (pC (.int 0)))
def wc_law_numbers_0 : Ev → Rs Bool :=
  (pB (pBin fLt (pCall fLen (pCons (pVo 4) pNil)) (pV 1)))
def p_law_numbers : Ev → Fl :=
  (pSeq (pSet 2 (pSl fSl (pV 0) pNo (pPart (pC (.int 63)))))
  (pSeq (pSet 3 (pBin fAdd (pC (.int 1)) (pBin fDiv (pV 1) (pCall fMax2 (pCons (pC (.int 1)) (pCons (pCall fLen (pCons (pV 2) pNil)) pNil))))))
  (pSeq (pSetO 4 (pLst pNil))
  (pSeq (pFor (pIter (pV 2)) (gN 5) l_law_numbers_1)
  (pSeq (pWhile (fun ρ => fuelI 1 ρ) wc_law_numbers_0 w_law_numbers_0)
  (pFrz 4 (pRet (pSl fSl (pV 4) pNo (pPart (pV 1))))))))))
def f_law_numbers : List D → Rs D := runF 7 p_law_numbers
/-- _law_pick(_law_numbers_here, _law_at, _law_most) : 0 _law_numbers_here, 1 _law_at, 2 _law_most -/
def p_law_pick : Ev → Fl :=
  (pRet (pBin fMod (pCall fInt (pCons (pBin fIx (pV 0) (pV 1)) pNil)) (pV 2)))
def f_law_pick : List D → Rs D := runF 3 p_law_pick
/-- _law_divisor(_law_one, _law_other) : 0 _law_one, 1 _law_other, 2 _law_turn -/
def l_law_divisor_0 : Ev → Fl :=
  (pSeq (pIfS (pB (pBin fEq (pV 1) (pC (.int 0))))
    Fl.bk
    pNext)
  (pPar 0 1 (pCons (pV 1) (pCons (pBin fMod (pCall fInt (pCons (pV 0) pNil)) (pV 1)) pNil))))
def p_law_divisor : Ev → Fl :=
  (pSeq (pFor (pRg1 (pCons (pC (.int 400)) pNil)) (gN 2) l_law_divisor_0)
  (pRet (pV 0)))
def f_law_divisor : List D → Rs D := runF 3 p_law_divisor
/-- law(_law_script) : 0 _law_script, 1 _law_numbers_here, 2 _law_sizes, 3 _law_step, 4 _law_rests, 5 _law_number, 6 _law_divisor_here, 7 _law_found, 8 _law_k, 9 _law_size -/
def e_law_0 : Ev → Rs D :=
  (pBin fAdd (pC (.int 1)) (pFn (arity 3 f_law_pick) [] (pCons (pV 1) (pCons (pV 8) (pCons (pC (.int 30)) pNil)))))
def e_law_1 : Ev → Rs D :=
  (pBin fMul (pV 9) (pV 3))
def e_law_2 : Ev → Rs D :=
  (pBin fMod (pCall fInt (pCons (pBin fAdd (pBin fAdd (pBin fMul (pBin fIx (pV 1) (pBin fAdd (pC (.int 5)) (pV 8))) (pBin fPow (pC (.int 10)) (pC (.int 9)))) (pBin fMul (pBin fIx (pV 1) (pBin fAdd (pC (.int 7)) (pV 8))) (pBin fPow (pC (.int 10)) (pC (.int 3))))) (pBin fIx (pV 1) (pBin fAdd (pC (.int 9)) (pBin fMul (pC (.int 2)) (pV 8))))) pNil)) (pBin fIx (pV 2) (pV 8)))
def e_law_3 : Ev → Rs D :=
  (pBin fMod (pCall fInt (pCons (pV 5) pNil)) (pV 9))
def q5_law_0 : Ev → Fl :=
  (pSeq (pSet 6 (pFn (arity 2 f_law_divisor) [] (pCons (pBin fIx (pV 2) (pC (.int 0))) (pCons (pBin fIx (pV 2) (pC (.int 1))) pNil))))
  (pSeq (pSet 7 (pFn (arity 2 f_chinese) [] (pCons (pTup (pCons (pBin fIx (pV 4) (pC (.int 0))) (pCons (pBin fIx (pV 2) (pC (.int 0))) pNil))) (pCons (pTup (pCons (pBin fIx (pV 4) (pC (.int 1))) (pCons (pBin fIx (pV 2) (pC (.int 1))) pNil))) pNil))))
  (pSeq (pIfS (pB (pBin fNe (pFn (arity 2 f_chinese) [] (pCons (pTup (pCons (pBin fIx (pV 4) (pC (.int 1))) (pCons (pBin fIx (pV 2) (pC (.int 1))) pNil))) (pCons (pTup (pCons (pBin fIx (pV 4) (pC (.int 0))) (pCons (pBin fIx (pV 2) (pC (.int 0))) pNil))) pNil))) (pV 7)))
    (pRet (pC (.bl false)))
    pNext)
  (pSeq (pIfS (pB (pBin fNe (pBin fMod (pCall fInt (pCons (pBin fSub (pBin fIx (pV 4) (pC (.int 0))) (pBin fIx (pV 4) (pC (.int 1)))) pNil)) (pV 6)) (pC (.int 0))))
    (pRet (pBin fIs (pV 7) (pC .non)))
    pNext)
  (pSeq (pIfS (pOr (pNot (pTr (pIsi "tuple" (pV 7)))) (pOr (pB (pBin fNe (pCall fLen (pCons (pV 7) pNil)) (pC (.int 2)))) (pB (pBin fNe (pBin fMul (pBin fIx (pV 7) (pC (.int 1))) (pV 6)) (pBin fMul (pBin fIx (pV 2) (pC (.int 0))) (pBin fIx (pV 2) (pC (.int 1))))))))
    (pRet (pC (.bl false)))
    pNext)
  (pSeq (pIfS (pOr (pNot (pB (pChain fLe fLt (pC (.int 0)) (pBin fIx (pV 7) (pC (.int 0))) (pBin fIx (pV 7) (pC (.int 1)))))) (pTr (pIsi "bool" (pBin fIx (pV 7) (pC (.int 0))))))
    (pRet (pC (.bl false)))
    pNext)
  (pRet (pAndV (pBin fEq (pBin fMod (pCall fInt (pCons (pBin fIx (pV 7) (pC (.int 0))) pNil)) (pBin fIx (pV 2) (pC (.int 0)))) (pBin fIx (pV 4) (pC (.int 0)))) (pBin fEq (pBin fMod (pCall fInt (pCons (pBin fIx (pV 7) (pC (.int 0))) pNil)) (pBin fIx (pV 2) (pC (.int 1)))) (pBin fIx (pV 4) (pC (.int 1))))))))))))
def q3_law_0 : Ev → Fl :=
  (pSeq (pSet 4 (pLc (pRg1 (pCons (pC (.int 2)) pNil)) (gN 8) pYes e_law_2 [8]))
  (pSeq (pIfS (pB (pBin fEq (pFn (arity 3 f_law_pick) [] (pCons (pV 1) (pCons (pC (.int 10)) (pCons (pC (.int 2)) pNil)))) (pC (.int 0))))
    (pSeq (pSet 5 (pBin fAdd (pBin fAdd (pBin fMul (pBin fIx (pV 1) (pC (.int 5))) (pBin fPow (pC (.int 10)) (pC (.int 20)))) (pBin fMul (pBin fIx (pV 1) (pC (.int 6))) (pBin fPow (pC (.int 10)) (pC (.int 8))))) (pBin fIx (pV 1) (pC (.int 7)))))
  (pSet 4 (pLc (pIter (pV 2)) (gN 9) pYes e_law_3 [9])))
    pNext)
  q5_law_0))
def p_law : Ev → Fl :=
  (pSeq (pSet 1 (pFn (arity 2 f_law_numbers) [] (pCons (pV 0) (pCons (pC (.int 12)) pNil))))
  (pSeq (pSet 2 (pLc (pRg1 (pCons (pC (.int 2)) pNil)) (gN 8) pYes e_law_0 [8]))
  (pSeq (pIfS (pB (pBin fEq (pFn (arity 3 f_law_pick) [] (pCons (pV 1) (pCons (pC (.int 2)) (pCons (pC (.int 4)) pNil)))) (pC (.int 1))))
    (pSeq (pSet 3 (pBin fAdd (pBin fAdd (pC (.int 1)) (pBin fMul (pBin fIx (pV 1) (pC (.int 3))) (pBin fPow (pC (.int 10)) (pC (.int 12))))) (pBin fMul (pBin fIx (pV 1) (pC (.int 4))) (pBin fPow (pC (.int 10)) (pC (.int 6))))))
  (pSet 2 (pLc (pIter (pV 2)) (gN 9) pYes e_law_1 [9])))
    pNext)
  q3_law_0)))
def f_law : List D → Rs D := runF 10 p_law
end DL
end

section
set_option linter.all false
set_option maxRecDepth 100000
set_option maxHeartbeats 4000000
set_option exponentiation.threshold 2000
namespace DL
open PySem L2
local macro_rules | `(tactic| walk_at "dl") => `(tactic| simp [pSeq, pSet, pSetO, pWith, pBin, pV, pVo, pC, pCall, pCons, pNil, pTup, pLst, pUn, pIf, pIfS, pRet, pDrop, pAsg, pPar, pAug, pApp, pFrz, frzE, pB, pTr, pNot, pAnd, pOr, pAndV, pOrV, pNotV, pChain, pNext, pFn, arity, pIter, pFor, pRg1, pRg2, pSl, pNo, pPart, pWhile, fuelI, pIsi, pIsiT, tyN, isiOk, isiB, isiAny, pLc, wipeE, sz_eq, *])
theorem dvd_iff {a b : Int} : a % b = 0 ↔ b ∣ a := ⟨Int.dvd_of_emod_eq_zero, Int.emod_eq_zero_of_dvd⟩
theorem e1b : ((10 : Int) ^ 100) < 10 ^ 200 := by decide
theorem e2b : ((10 : Nat) ^ 100) < 10 ^ 300 := by decide
theorem e3b : ((10 : Int) ^ 100) = ((10 ^ 100 : Nat) : Int) := by norm_cast
theorem gcd_step (l r : Int) (h : 0 < r) : Int.gcd r (l - l / r * r) = Int.gcd l r := by
  have e : l - l / r * r = l + r * (-(l / r)) := by grind
  rw [e, Int.gcd_add_mul_left_right, Int.gcd_comm]
theorem bez_step (l r f g q m : Nat) (h : f * r + g * l ≤ m) (r' : Nat) (hl : l = q * r + r') (f' : Nat) (hf : f' ≤ f + q * g) : g * r' + f' * r ≤ m := by
  have h1 : f' * r ≤ (f + q * g) * r := Nat.mul_le_mul_right r hf
  have h2 : g * r' + (f + q * g) * r = f * r + g * l := by rw [hl]; grind
  omega
theorem inv_wh (n m : Int) (hm : 0 < m) (hb : m < 10 ^ 100) : ∀ (k : Nat) (l r f g : Int) (x : EV), 0 < l → 0 ≤ r → r < k → l < 10 ^ 100 → r < 10 ^ 100 → f.natAbs * r.natAbs + g.natAbs * l.natAbs ≤ m.natAbs → m ∣ l - f * n → m ∣ r - g * n → Int.gcd l r = 1 →
    ∃ (f' g' : Int) (x' : EV), m ∣ 1 - f' * n ∧ whL wc_inverse_0 w_inverse_0 k [.dat (.int n), .dat (.int m), .dat (.int l), .dat (.int r), .dat (.int f), .dat (.int g), x] = .nx [.dat (.int n), .dat (.int m), .dat (.int 1), .dat (.int 0), .dat (.int f'), .dat (.int g'), x']
  | 0, l, r, f, g, x, hl, hr, hk, _, _, _, _, _, _ => by omega
  | k + 1, l, r, f, g, x, hl, hr, hk, bl, br, hi, d1, d2, hg => by
    by_cases hc : 0 < r
    · have q0 : 0 ≤ l / r := Int.ediv_nonneg (by omega) hr
      have q1 : l / r ≤ l := Int.ediv_le_self _ (by omega)
      have em := Int.emod_add_mul_ediv l r
      have r0 := Int.emod_nonneg l (show r ≠ 0 by omega)
      have r1 := Int.emod_lt_of_pos l hc
      have er : l - l / r * r = l % r := by rw [Int.mul_comm]; omega
      have gm : g.natAbs ≤ m.natAbs := by
        have h1 : g.natAbs * 1 ≤ g.natAbs * l.natAbs := Nat.mul_le_mul_left _ (by omega)
        omega
      have hq : 0 ≤ l / r * r := Int.mul_nonneg q0 hr
      obtain ⟨f', g', x', h1, h2⟩ := inv_wh n m hm hb k r (l - l / r * r) g (f - l / r * g) (.dat (.int (l / r))) hc (by omega) (by omega) br (by omega)
        (bez_step l.natAbs r.natAbs f.natAbs g.natAbs (l / r).natAbs m.natAbs hi (l - l / r * r).natAbs (by rw [← Int.natAbs_mul]; omega) _ (Nat.le_trans (Int.natAbs_sub_le _ _) (by rw [Int.natAbs_mul]; exact Nat.le_refl _)))
        d2 (by
          have e : l - l / r * r - (f - l / r * g) * n = (l - f * n) - l / r * (r - g * n) := by grind
          rw [e]; exact Int.dvd_sub d1 (Int.dvd_mul_of_dvd_right d2)) (by rw [gcd_step l r hc, hg])
      refine ⟨f', g', x', h1, ?_⟩
      have hd := fDiv_ok (i := l) hc (by have := e1b; omega)
      have e3 := e3b
      have e2 := e2b
      have m1 := fMul_w (i := l / r) (j := r) (by omega) (by omega)
      have m2 := fMul_w (i := l / r) (j := g) (by omega) (by omega)
      rw [whL_step (ρ2 := [.dat (.int n), .dat (.int m), .dat (.int r), .dat (.int (l - l / r * r)), .dat (.int g), .dat (.int (f - l / r * g)), .dat (.int (l / r))])]
      · exact h2
      · unfold wc_inverse_0
        clear h2 d1 d2 hi e2 e3 bl br hb em
        walk_at "dl"
      · unfold w_inverse_0
        clear h2 d1 d2 hi e2 e3 bl br hb em er
        walk_at "dl"
    · have h0 : r = 0 := by omega
      subst h0
      have h1 : l = 1 := by rw [Int.gcd_zero_right] at hg; omega
      subst h1
      refine ⟨f, g, x, d1, ?_⟩
      rw [whL_end]
      unfold wc_inverse_0
      simp [pB, pBin, pV, pC]
theorem inverse_is (n m : Int) (hn : 0 < n) (hm : 0 < m) (bn : n < 10 ^ 100) (bm : m < 10 ^ 100) (hg : Int.gcd n m = 1) : ∃ v : Int, 0 ≤ v ∧ v < m ∧ m ∣ 1 - v * n ∧ f_inverse [.int n, .int m] = .ok (.int v) := by
  obtain ⟨f', g', x', h1, h2⟩ := inv_wh n m hm bm (m.natAbs + 1) n m 1 0 .unb hn (by omega) (by omega) bn bm (by simp) (by simp) (by simp) hg
  refine ⟨f' % m, Int.emod_nonneg _ (by omega), Int.emod_lt_of_pos _ hm, ?_, ?_⟩
  · have e : 1 - f' % m * n = (1 - f' * n) + m * (f' / m * n) := by
      have := Int.emod_add_mul_ediv f' m
      grind
    rw [e]; exact Int.dvd_add h1 (Int.dvd_mul_right _ _)
  · clear h1 hg bn bm
    unfold f_inverse runF p_inverse
    walk_at "dl"
theorem chinese_none (a s b t : Int) (hs : 0 < s) (h : (b - a) % (Int.gcd s t : Int) ≠ 0) : f_chinese [.tup [.int a, .int s], .tup [.int b, .int t]] = .ok .non := by
  have g0 : (0 : Int) < Int.gcd s t := by
    have := Int.gcd_pos_of_ne_zero_left t (show s ≠ 0 by omega)
    omega
  have gg : fGcd [.int s, .int t] = .ok (.int (Int.gcd s t)) := rfl
  generalize (Int.gcd s t : Int) = g at h g0 gg
  unfold f_chinese runF p_chinese
  walk_at "dl"
theorem pos_of_pos {g a : Int} (h : 0 < g * a) (hg : 0 < g) : 0 < a := by
  by_cases hc : 0 < a
  · exact hc
  · exfalso
    have := Int.mul_nonpos_of_nonneg_of_nonpos (Int.le_of_lt hg) (show a ≤ 0 by omega)
    omega
theorem chinese_some (a s b t : Int) (hs : 0 < s) (ht : 0 < t) (bs : s < 10 ^ 100) (bt : t < 10 ^ 100) (ba : a.natAbs < 10 ^ 99) (bb : b.natAbs < 10 ^ 99) (h : (b - a) % (Int.gcd s t : Int) = 0) :
    ∃ x : Int, 0 ≤ x ∧ x < s / Int.gcd s t * t ∧ s ∣ x - a ∧ t ∣ x - b ∧ f_chinese [.tup [.int a, .int s], .tup [.int b, .int t]] = .ok (.tup [.int x, .int (s / Int.gcd s t * t)]) := by
  have g0 : (0 : Int) < Int.gcd s t := by
    have := Int.gcd_pos_of_ne_zero_left t (show s ≠ 0 by omega)
    omega
  have gg : fGcd [.int s, .int t] = .ok (.int (Int.gcd s t)) := rfl
  have cop : Int.gcd (s / Int.gcd s t) (t / Int.gcd s t) = 1 := Int.gcd_ediv_gcd_ediv_gcd (by omega)
  have ds := Int.gcd_dvd_left s t
  have dt := Int.gcd_dvd_right s t
  have gs : (Int.gcd s t : Int) ≤ s := Int.le_of_dvd hs ds
  generalize (Int.gcd s t : Int) = g at *
  obtain ⟨s', rfl⟩ := ds
  obtain ⟨t', rfl⟩ := dt
  have es : g * s' / g = s' := Int.mul_ediv_cancel_left _ (by omega)
  have et : g * t' / g = t' := Int.mul_ediv_cancel_left _ (by omega)
  have s0 : 0 < s' := pos_of_pos hs g0
  have t0 : 0 < t' := pos_of_pos ht g0
  rw [es, et] at cop
  rw [es]
  have ls : s' ≤ g * s' := by have := Int.mul_le_mul_of_nonneg_right (show 1 ≤ g by omega) (show 0 ≤ s' by omega); omega
  have lt : t' ≤ g * t' := by have := Int.mul_le_mul_of_nonneg_right (show 1 ≤ g by omega) (show 0 ≤ t' by omega); omega
  obtain ⟨v, v0, v1, hv, hf⟩ := inverse_is s' t' s0 t0 (by omega) (by omega) cop
  obtain ⟨u, hu⟩ := dvd_iff.mp h
  have eu : (b - a) / g = u := by rw [hu]; exact Int.mul_ediv_cancel_left _ (by omega)
  have ew := Int.emod_add_mul_ediv (u * v) t'
  have M0 : 0 < s' * (g * t') := Int.mul_pos s0 ht
  have key : ∀ z : Int, (a + g * s' * (u * v % t')) % (s' * (g * t')) = a + g * s' * (u * v % t') - s' * (g * t') * ((a + g * s' * (u * v % t')) / (s' * (g * t'))) := fun z => by
    have := Int.emod_add_mul_ediv (a + g * s' * (u * v % t')) (s' * (g * t'))
    omega
  refine ⟨(a + g * s' * (u * v % t')) % (s' * (g * t')), Int.emod_nonneg _ (by omega), Int.emod_lt_of_pos _ M0, ?_, ?_, ?_⟩
  · rw [key 0]
    refine ⟨u * v % t' - t' * ((a + g * s' * (u * v % t')) / (s' * (g * t'))), ?_⟩
    generalize (a + g * s' * (u * v % t')) / (s' * (g * t')) = w
    grind
  · rw [key 0]
    obtain ⟨y, hy⟩ := hv
    refine ⟨- u * y - s' * (u * v / t') - s' * ((a + g * s' * (u * v % t')) / (s' * (g * t'))), ?_⟩
    generalize (a + g * s' * (u * v % t')) / (s' * (g * t')) = w
    generalize u * v / t' = p at ew ⊢
    generalize u * v % t' = q at ew ⊢
    have e1 : q = u * v - t' * p := by omega
    have e2 : v * s' = 1 - t' * y := by omega
    have e3 : a = b - g * u := by omega
    subst e1 e3
    grind
  · have e1 := e1b
    have e2 := e2b
    have e3 := e3b
    have bu : u.natAbs ≤ (b - a).natAbs := by
      rw [hu, Int.natAbs_mul]
      have := Nat.mul_le_mul_right u.natAbs (show 1 ≤ g.natAbs by omega)
      omega
    have e4 : (10 : Nat) ^ 99 + 10 ^ 99 < 10 ^ 100 := by decide
    have p0 := Int.emod_nonneg (u * v) (show t' ≠ 0 by omega)
    have p1 := Int.emod_lt_of_pos (u * v) t0
    have m1 := fMul_w (i := u) (j := v) (by omega) (by omega)
    have m2 := fMul_w (i := s') (j := g * t') (by omega) (by omega)
    have m3 := fMul_w (i := g * s') (j := u * v % t') (by omega) (by omega)
    have d1 := fDiv_ok (i := b - a) g0 (by omega)
    have d2 := fDiv_ok (i := g * s') g0 (by omega)
    have d3 := fDiv_ok (i := g * t') g0 (by omega)
    clear key ew hu hv ba bb bs bt gs cop e1 e2 e3 v0 v1 e4 p0 p1 bu ls lt
    unfold f_chinese runF p_chinese
    walk_at "dl"
end DL
end

section
set_option linter.all false
set_option maxRecDepth 100000
set_option maxHeartbeats 4000000
set_option exponentiation.threshold 2000
namespace DL
open PySem L2
local macro_rules | `(tactic| walk_at "dl") => `(tactic| simp [pSeq, pSet, pSetO, pWith, pBin, pV, pVo, pC, pCall, pCons, pNil, pTup, pLst, pUn, pIf, pIfS, pRet, pDrop, pAsg, pPar, pAug, pApp, pFrz, frzE, pB, pTr, pNot, pAnd, pOr, pAndV, pOrV, pNotV, pChain, pNext, pFn, arity, pIter, pFor, pRg1, pRg2, pSl, pNo, pPart, pWhile, fuelI, *])
abbrev dI (L : List Int) : List D := L.map .int
/-- what is drawn -/
def Dr (L : List Int) : Prop := ∀ y ∈ L, 0 ≤ y ∧ y < 1009
theorem Dr.nil : Dr [] := fun y h => by simp at h
theorem Dr.snoc {L : List Int} (h : Dr L) {z : Int} (h0 : 0 ≤ z) (h1 : z < 1009) : Dr (L ++ [z]) := fun y hy => by
  rcases List.mem_append.mp hy with q | q
  · exact h y q
  · rw [List.mem_singleton.mp q]; exact ⟨h0, h1⟩
theorem dI_snoc (L : List Int) (z : Int) : dI (L ++ [z]) = dI L ++ [.int z] := by simp [dI]
theorem dI_len (L : List Int) : (dI L).length = L.length := by simp [dI]
theorem row_body (c m : Int) (acc : List Int) (rest mixed k : Int) (hl : acc.length < 10000) : ∃ z rest' mixed' : Int, 0 ≤ z ∧ z < 1009 ∧
    l_law_row_0 [.dat (.int c), .dat (.int m), .own (.lst (dI acc)), .dat (.int rest), .dat (.int mixed), .dat (.int k)] = .nx [.dat (.int c), .dat (.int m), .own (.lst (dI (acc ++ [z]))), .dat (.int rest'), .dat (.int mixed'), .dat (.int k)] := by
  have hsz : acc.length < sizeLine := by rw [sizeLine_eq]; omega
  have m1 : fMul (.int mixed) (.int 16807) = .ok (.int (mixed * 16807)) := fMul_r (by decide)
  have m2 : fMul (.int 271) (.int (k + 3)) = .ok (.int (271 * (k + 3))) := fMul_l (by decide)
  by_cases hc : (1000000000000000000 : Int) ≤ (if c < 0 then -c else c)
  · refine ⟨rest % 1009, rest / 1009, (mixed * 16807 + 271 * (k + 3)) % 2147483629, Int.emod_nonneg _ (by decide), Int.emod_lt_of_pos _ (by decide), ?_⟩
    unfold l_law_row_0
    walk_at "dl"
  · refine ⟨((mixed * 16807 + 271 * (k + 3)) % 2147483629 / 7) % 1009, rest, (mixed * 16807 + 271 * (k + 3)) % 2147483629, Int.emod_nonneg _ (by decide), Int.emod_lt_of_pos _ (by decide), ?_⟩
    unfold l_law_row_0
    walk_at "dl"
theorem row_loop (c m : Int) : ∀ (ks : List D) (acc : List Int) (rest mixed : Int) (x : EV), (∀ d ∈ ks, ∃ k, d = .int k) → acc.length + ks.length < 10000 → Dr acc →
    ∃ (acc' : List Int) (rest' mixed' : Int) (x' : EV), acc'.length = acc.length + ks.length ∧ Dr acc' ∧
      forL (gN 5) l_law_row_0 ks [.dat (.int c), .dat (.int m), .own (.lst (dI acc)), .dat (.int rest), .dat (.int mixed), x] = .nx [.dat (.int c), .dat (.int m), .own (.lst (dI acc')), .dat (.int rest'), .dat (.int mixed'), x']
  | [], acc, rest, mixed, x, _, _, ha => ⟨acc, rest, mixed, x, by simp, ha, rfl⟩
  | d :: ks, acc, rest, mixed, x, hk, hl, ha => by
    obtain ⟨k, rfl⟩ := hk d List.mem_cons_self
    rw [List.length_cons] at hl
    obtain ⟨z, rest1, mixed1, h0, h1, hb⟩ := row_body c m acc rest mixed k (by omega)
    obtain ⟨acc', rest', mixed', x', q1, q2, q3⟩ := row_loop c m ks (acc ++ [z]) rest1 mixed1 (.dat (.int k)) (fun d hd => hk d (List.mem_cons_of_mem _ hd)) (by simp; omega) (ha.snoc h0 h1)
    exact ⟨acc', rest', mixed', x', by rw [q1]; simp; omega, q2, by rw [forL_step (ρ1 := [.dat (.int c), .dat (.int m), .own (.lst (dI acc)), .dat (.int rest), .dat (.int mixed), .dat (.int k)]) rfl hb]; exact q3⟩
theorem rgD_int {lo : Int} {n : Nat} : ∀ d ∈ rgD lo n, ∃ k, d = .int k := fun d h => by
  obtain ⟨i, _, rfl⟩ := List.mem_map.mp h
  exact ⟨_, rfl⟩
theorem rgD_len {lo : Int} {n : Nat} : (rgD lo n).length = n := by simp [rgD]
theorem rgOk_of {i : Int} (h : -1000000 ≤ i) (h2 : i ≤ 1000000) : rgOk i = true := by
  unfold rgOk
  rw [decide_eq_true (show -(2 ^ 62 : Int) ≤ i by omega), decide_eq_true (show i < (2 ^ 62 : Int) by omega)]; rfl
theorem law_row (c m : Int) (h0 : 0 ≤ m) (h1 : m < 9000) : ∃ L : List Int, (L.length : Int) = m ∧ Dr L ∧ f_law_row [.int c, .int m] = .ok (.lst (dI L)) := by
  obtain ⟨acc', rest', mixed', x', q1, q2, q3⟩ := row_loop c m (rgD 0 m.toNat) [] (if c < 0 then -c else c) (((if c < 0 then -c else c) * 48271 + 69621) % 2147483647) .unb rgD_int (by rw [rgD_len]; simp; omega) Dr.nil
  refine ⟨acc', by rw [q1, rgD_len]; simp; omega, q2, ?_⟩
  have m1 : fMul (.int (if c < 0 then -c else c)) (.int 48271) = .ok (.int ((if c < 0 then -c else c) * 48271)) := fMul_r (by decide)
  have hr : rgOk m = true := rgOk_of (by omega) (by omega)
  rw [show dI [] = [] from rfl] at q3
  unfold f_law_row runF p_law_row
  walk_at "dl"
theorem nums_body (s0 many each cells c z : D) (acc : List D) (hl : acc.length < 16777216) : l_law_numbers_0 [.dat s0, .dat many, .dat cells, .dat each, .own (.lst acc), .dat c, .dat z] = .nx [.dat s0, .dat many, .dat cells, .dat each, .own (.lst (acc ++ [z])), .dat c, .dat z] := by
  unfold l_law_numbers_0
  have hsz : acc.length < sizeLine := by rw [sizeLine_eq]; omega
  walk_at "dl"
theorem nums_in (s0 many each cells c : D) : ∀ (L : List Int) (acc : List Int) (x : EV), acc.length + L.length < 10000000 → ∃ x', forL (gN 6) l_law_numbers_0 (dI L) [.dat s0, .dat many, .dat cells, .dat each, .own (.lst (dI acc)), .dat c, x] = .nx [.dat s0, .dat many, .dat cells, .dat each, .own (.lst (dI (acc ++ L))), .dat c, x']
  | [], acc, x, _ => ⟨x, by rw [List.append_nil]; rfl⟩
  | z :: L, acc, x, hl => by
    rw [List.length_cons] at hl
    obtain ⟨x', h⟩ := nums_in s0 many each cells c L (acc ++ [z]) (.dat (.int z)) (by simp; omega)
    refine ⟨x', ?_⟩
    show forL _ _ (.int z :: dI L) _ = _
    rw [forL_step (ρ1 := [.dat s0, .dat many, .dat cells, .dat each, .own (.lst (dI acc)), .dat c, .dat (.int z)]) rfl (nums_body s0 many each cells c (.int z) (dI acc) (by rw [dI_len]; omega)), ← dI_snoc, h]
    simp
theorem nums_out (s0 many cells : D) (each : Int) (h0 : 0 ≤ each) (h1 : each < 9000) : ∀ (ns : List Int) (acc : List Int) (x y : EV), Dr acc → acc.length + ns.length * 9000 < 1000000 → ∃ acc' x' y', Dr acc' ∧ acc'.length ≤ acc.length + ns.length * 9000 ∧
    forL (gN 5) l_law_numbers_1 (dI ns) [.dat s0, .dat many, .dat cells, .dat (.int each), .own (.lst (dI acc)), x, y] = .nx [.dat s0, .dat many, .dat cells, .dat (.int each), .own (.lst (dI acc')), x', y']
  | [], acc, x, y, ha, _ => ⟨acc, x, y, ha, by simp, rfl⟩
  | c :: ns, acc, x, y, ha, hl => by
    rw [List.length_cons] at hl
    obtain ⟨L, l1, l2, l3⟩ := law_row c each h0 h1
    obtain ⟨y1, hy⟩ := nums_in s0 many (.int each) cells (.int c) L acc y (by omega)
    have hd : Dr (acc ++ L) := fun z hz => by
      rcases List.mem_append.mp hz with q | q
      · exact ha z q
      · exact l2 z q
    obtain ⟨acc', x', y', q1, q2, q3⟩ := nums_out s0 many cells each h0 h1 ns (acc ++ L) (.dat (.int c)) y1 hd (by simp; omega)
    refine ⟨acc', x', y', q1, by rw [List.length_append] at q2; rw [List.length_cons]; omega, ?_⟩
    show forL _ _ (.int c :: dI ns) _ = _
    rw [forL_step (ρ1 := [.dat s0, .dat many, .dat cells, .dat (.int each), .own (.lst (dI acc)), .dat (.int c), y]) rfl (ρ2 := [.dat s0, .dat many, .dat cells, .dat (.int each), .own (.lst (dI (acc ++ L))), .dat (.int c), y1])]
    · exact q3
    · unfold l_law_numbers_1
      walk_at "dl"
theorem nums_wh (s0 cells each : D) (many : Int) (x y : EV) (h1 : many < 9000) : ∀ (n : Nat) (acc : List Int), Dr acc → acc.length < 1000000 → many - acc.length < n → 0 < n → ∃ acc' : List Int, Dr acc' ∧ many ≤ acc'.length ∧ acc'.length < 2000000 ∧
    whL wc_law_numbers_0 w_law_numbers_0 n [.dat s0, .dat (.int many), .dat cells, .dat each, .own (.lst (dI acc)), x, y] = .nx [.dat s0, .dat (.int many), .dat cells, .dat each, .own (.lst (dI acc')), x, y]
  | 0, acc, ha, hl, hn, h0 => by omega
  | n + 1, acc, ha, hl, hn, _ => by
    by_cases hc : (acc.length : Int) < many
    · obtain ⟨acc', q1, q2, q3, q4⟩ := nums_wh s0 cells each many x y h1 n (acc ++ [0]) (ha.snoc (by decide) (by decide)) (by simp; omega) (by simp; omega) (by omega)
      refine ⟨acc', q1, q2, q3, ?_⟩
      have hsz : acc.length < sizeLine := by rw [sizeLine_eq]; omega
      rw [whL_step (ρ2 := [.dat s0, .dat (.int many), .dat cells, .dat each, .own (.lst (dI (acc ++ [0]))), x, y]), q4]
      · unfold wc_law_numbers_0; walk_at "dl"
      · unfold w_law_numbers_0; walk_at "dl"
    · refine ⟨acc, ha, by omega, by omega, ?_⟩
      rw [whL_end]
      unfold wc_law_numbers_0; walk_at "dl"
theorem law_numbers (ns : List Int) (many : Int) (h0 : 0 ≤ many) (h1 : many < 8000) (hn : ns.length ≤ 63) : ∃ L : List Int, (L.length : Int) = many ∧ Dr L ∧ f_law_numbers [.kl (dI ns), .int many] = .ok (.lst (dI L)) := by
  have hcut : cutD (dI ns) none (some 63) = dI ns := by
    have := cutD_take (dI ns) 63
    rw [show ((63 : Nat) : Int) = 63 from rfl] at this
    rw [this, List.take_of_length_le (by rw [dI_len]; exact hn)]
  have hmx : (0 : Int) < (if 1 < (ns.length : Int) then (ns.length : Int) else 1) := by split <;> omega
  have hmx2 : (if 1 < (ns.length : Int) then (ns.length : Int) else 1) < 10 ^ 200 := by
    have e : (1000 : Int) < 10 ^ 200 := by decide
    split <;> omega
  have hdv := fDiv_ok (i := many) hmx hmx2
  have e0 : 0 ≤ many / (if 1 < (ns.length : Int) then (ns.length : Int) else 1) := Int.ediv_nonneg h0 (by omega)
  have e1 : many / (if 1 < (ns.length : Int) then (ns.length : Int) else 1) ≤ many := Int.ediv_le_self _ h0
  generalize hq : many / (if 1 < (ns.length : Int) then (ns.length : Int) else 1) = q at hdv e0 e1
  obtain ⟨acc', x', y', a1, a2, a3⟩ := nums_out (.kl (dI ns)) (.int many) (.lst (dI ns)) (1 + q) (by omega) (by omega) ns [] .unb .unb Dr.nil (by simp; omega)
  obtain ⟨acc2, b1, b2, b3, b4⟩ := nums_wh (.kl (dI ns)) (.lst (dI ns)) (.int (1 + q)) many x' y' (by omega) (many.natAbs + 1) acc' a1 (by simp at a2; omega) (by omega) (by omega)
  have hcut2 : cutD (dI acc2) none (some many) = dI (acc2.take many.toNat) := by
    have := cutD_take (dI acc2) many.toNat
    rw [show ((many.toNat : Nat) : Int) = many by omega] at this
    rw [this, dI, dI, List.map_take]
  refine ⟨acc2.take many.toNat, by rw [List.length_take]; omega, fun y hy => b1 y (List.mem_of_mem_take hy), ?_⟩
  rw [show dI [] = [] from rfl] at a3
  unfold f_law_numbers runF p_law_numbers
  have hsl : fSl (.kl (dI ns)) none (some 63) = .ok (.lst (dI ns)) := by
    show Rs.ok (D.lst (cutD (dI ns) none (some 63))) = _
    rw [hcut]
  have hsl2 : fSl (.lst (dI acc2)) none (some many) = .ok (.lst (dI (acc2.take many.toNat))) := by
    show Rs.ok (D.lst (cutD (dI acc2) none (some many))) = _
    rw [hcut2]
  walk_at "dl"
theorem law_pick (L : List Int) (i m x : Int) (h0 : 0 ≤ i) (hx : L[i.toNat]? = some x) (hm : 0 < m) : f_law_pick [.lst (dI L), .int i, .int m] = .ok (.int (x % m)) := by
  have e : fIx (.lst (dI L)) (.int i) = .ok (.int x) := fIx_lst h0 (by rw [dI, List.getElem?_map, hx]; rfl)
  unfold f_law_pick runF p_law_pick
  walk_at "dl"
end DL
end

section
set_option linter.all false
set_option maxRecDepth 100000
set_option maxHeartbeats 4000000
set_option exponentiation.threshold 2000
namespace DL
open PySem L2
local macro_rules | `(tactic| walk_at "dl") => `(tactic| simp [pSeq, pSet, pSetO, pWith, pBin, pV, pVo, pC, pCall, pCons, pNil, pTup, pLst, pUn, pIf, pIfS, pRet, pDrop, pAsg, pPar, pAug, pApp, pFrz, frzE, pB, pTr, pNot, pAnd, pOr, pAndV, pOrV, pNotV, pChain, pNext, pFn, arity, pIter, pFor, pRg1, pRg2, pSl, pNo, pPart, pWhile, fuelI, pIsi, pIsiT, tyN, isiOk, isiB, isiAny, pLc, wipeE, sz_eq, *])
/-! data that compare -/
def lay (k : Nat) (d : D) : Prop := (toPy d).canLay0 = true ∧ (toPy d).depth ≤ k
theorem lay_int {i : Int} {k : Nat} : lay k (.int i) := ⟨by simp [toPy, PyData.canLay0], by simp [toPy, PyData.depth]⟩
theorem lay_non {k : Nat} : lay k .non := ⟨by simp [toPy, PyData.canLay0], by simp [toPy, PyData.depth]⟩
theorem lay_all {k : Nat} : ∀ {ds : List D}, (∀ d ∈ ds, lay k d) → PyData.canLayAll0 (toPyL ds) = true ∧ PyData.depthAll (toPyL ds) ≤ k
  | [], _ => ⟨by simp [toPyL, PyData.canLayAll0], by simp [toPyL, PyData.depthAll]⟩
  | d :: ds, h => by
    obtain ⟨a, b⟩ := h d List.mem_cons_self
    obtain ⟨c, e⟩ := lay_all fun x hx => h x (List.mem_cons_of_mem _ hx)
    exact ⟨by simp [toPyL, PyData.canLayAll0, a, c], by simp [toPyL, PyData.depthAll]; omega⟩
theorem lay_tup {k : Nat} {ds : List D} (h : ∀ d ∈ ds, lay k d) : lay (k + 1) (.tup ds) := by
  obtain ⟨a, b⟩ := lay_all h
  exact ⟨by simp [toPy, PyData.canLay0, a], by simp [toPy, PyData.depth]; omega⟩
theorem shp_lay {k : Nat} {d : D} (h : lay k d) (hk : k ≤ 64) : shp d = true := by
  unfold shp SeqAt.shaped
  rw [h.1, decide_eq_true (Nat.le_trans h.2 hk)]; rfl
theorem deq_refl {k : Nat} {d : D} (h : lay k d) : deq d d = true := PySem.SeqAt.eqv_refl _ h.1
theorem fNe_refl {k : Nat} {xs : List D} (h : lay k (.tup xs)) (hk : k ≤ 64) : fNe (.tup xs) (.tup xs) = .ok (.bl false) := by
  show (if shp (.tup xs) && shp (.tup xs) then Rs.ok (D.bl (!deq (.tup xs) (.tup xs))) else .no) = _
  rw [shp_lay h hk, deq_refl h]; rfl
theorem fNe_non : fNe .non .non = .ok (.bl false) := by
  show (if shp .non && shp .non then Rs.ok (D.bl (!deq .non .non)) else .no) = _
  rw [shp_lay (lay_non (k := 0)) (by decide), deq_refl (lay_non (k := 0))]; rfl
theorem lay_two (a b : Int) : lay 1 (.tup [.int a, .int b]) := lay_tup fun d hd => by
  simp at hd
  rcases hd with rfl | rfl <;> exact lay_int
/-! the law's own divisor -/
theorem div_loop : ∀ (k : Nat) (ks : List D) (a b : Int) (x : EV), 0 < a → 0 ≤ b → b ≤ a → a * b < 2 ^ k → k + 1 ≤ ks.length → ∃ x', forL (gN 2) l_law_divisor_0 ks [.dat (.int a), .dat (.int b), x] = .nx [.dat (.int (Int.gcd a b)), .dat (.int 0), x']
  | k, [], a, b, x, _, _, _, _, hl => by simp at hl
  | k, d :: ks, a, b, x, ha, hb, hba, hp, hl => by
    by_cases h0 : b = 0
    · subst h0
      refine ⟨.dat d, ?_⟩
      have e : (Int.gcd a 0 : Int) = a := by rw [Int.gcd_zero_right]; omega
      rw [e]
      refine forL_brk (ρ1 := [.dat (.int a), .dat (.int 0), .dat d]) rfl ?_
      unfold l_law_divisor_0
      walk_at "dl"
    · have hb0 : 0 < b := by omega
      have hp1 := Int.mul_pos ha hb0
      match k with
      | 0 => omega
      | k + 1 =>
        rw [List.length_cons] at hl
        have r0 := Int.emod_nonneg a (show b ≠ 0 by omega)
        have r1 := Int.emod_lt_of_pos a hb0
        have em := Int.emod_add_mul_ediv a b
        have q1 : 1 ≤ a / b := (Int.le_ediv_iff_mul_le hb0).mpr (by omega)
        have q2 : b * 1 ≤ b * (a / b) := Int.mul_le_mul_of_nonneg_left q1 hb
        have h2 : 2 * (a % b) ≤ a := by omega
        have h3 : b * (2 * (a % b)) ≤ b * a := Int.mul_le_mul_of_nonneg_left h2 hb
        have h4 : b * (a % b) < 2 ^ k := by
          rw [Int.mul_left_comm, Int.mul_comm b a] at h3
          rw [Int.pow_succ] at hp
          omega
        have e : Int.gcd b (a % b) = Int.gcd a b := by
          have := gcd_step a b hb0
          rw [show a - a / b * b = a % b by rw [Int.mul_comm]; omega] at this
          exact this
        obtain ⟨x', h⟩ := div_loop k ks b (a % b) (.dat d) hb0 r0 (by omega) h4 (by omega)
        refine ⟨x', ?_⟩
        rw [forL_step (ρ1 := [.dat (.int a), .dat (.int b), .dat d]) (ρ2 := [.dat (.int b), .dat (.int (a % b)), .dat d]) rfl, h, e]
        unfold l_law_divisor_0
        clear h e h4 h3 h2 q2 q1 em hp hp1
        walk_at "dl"
theorem law_divisor (a b : Int) (ha : 0 < a) (hb : 0 < b) (h : a * b < 2 ^ 390) : f_law_divisor [.int a, .int b] = .ok (.int (Int.gcd a b)) := by
  have hlen : (rgD 0 (400 : Int).toNat).length = 400 := rgD_len
  have main : ∃ x', forL (gN 2) l_law_divisor_0 (rgD 0 (400 : Int).toNat) [.dat (.int a), .dat (.int b), .unb] = .nx [.dat (.int (Int.gcd a b)), .dat (.int 0), x'] := by
    by_cases hc : b ≤ a
    · exact div_loop 390 _ a b .unb ha (by omega) hc h (by omega)
    · generalize rgD 0 (400 : Int).toNat = ks at hlen
      match ks, hlen with
      | d :: ks, hlen =>
        rw [List.length_cons] at hlen
        obtain ⟨x', h1⟩ := div_loop 390 ks b a (.dat d) hb (by omega) (by omega) (by rw [Int.mul_comm]; exact h) (by omega)
        refine ⟨x', ?_⟩
        have e : a % b = a := Int.emod_eq_of_lt (by omega) (by omega)
        have hb0 : ¬ b = 0 := by omega
        rw [forL_step (ρ1 := [.dat (.int a), .dat (.int b), .dat d]) (ρ2 := [.dat (.int b), .dat (.int a), .dat d]) rfl, h1, Int.gcd_comm]
        unfold l_law_divisor_0
        clear h1 h
        walk_at "dl"
  obtain ⟨x', hm⟩ := main
  have hr : rgOk 400 = true := rgOk_of (by decide) (by decide)
  simp at hm
  clear h hlen
  unfold f_law_divisor runF p_law_divisor
  walk_at "dl"
end DL
end

section
set_option linter.all false
set_option maxRecDepth 100000
set_option maxHeartbeats 4000000
set_option exponentiation.threshold 2000
namespace DL
open PySem L2
local macro_rules | `(tactic| walk_at "dl") => `(tactic| simp [pSeq, pSet, pSetO, pWith, pBin, pV, pVo, pC, pCall, pCons, pNil, pTup, pLst, pUn, pIf, pIfS, pRet, pDrop, pAsg, pPar, pAug, pApp, pFrz, frzE, pB, pTr, pNot, pAnd, pOr, pAndV, pOrV, pNotV, pChain, pNext, pFn, arity, pIter, pFor, pRg1, pRg2, pSl, pNo, pPart, pWhile, fuelI, pIsi, pIsiT, tyN, isiOk, isiB, isiAny, pLc, wipeE, sz_eq, *])
theorem same_class (s t x y : Int) (hs : 0 < s) (ht : 0 < t) (x0 : 0 ≤ x) (x1 : x < s / Int.gcd s t * t) (y0 : 0 ≤ y) (y1 : y < s / Int.gcd s t * t) (h1 : s ∣ x - y) (h2 : t ∣ x - y) : x = y := by
  have g0 : (0 : Int) < Int.gcd s t := by
    have := Int.gcd_pos_of_ne_zero_left t (show s ≠ 0 by omega)
    omega
  have cop : Int.gcd (s / Int.gcd s t) (t / Int.gcd s t) = 1 := Int.gcd_ediv_gcd_ediv_gcd (by omega)
  have ds := Int.gcd_dvd_left s t
  have dt := Int.gcd_dvd_right s t
  generalize (Int.gcd s t : Int) = g at *
  obtain ⟨s', rfl⟩ := ds
  obtain ⟨t', rfl⟩ := dt
  have es : g * s' / g = s' := Int.mul_ediv_cancel_left _ (by omega)
  have et : g * t' / g = t' := Int.mul_ediv_cancel_left _ (by omega)
  rw [es, et] at cop
  rw [es] at x1 y1
  obtain ⟨u, hu⟩ := h2
  obtain ⟨v, hv⟩ := h1
  have e : g * (s' * v) = g * (t' * u) := by rw [← Int.mul_assoc, ← hv, hu, Int.mul_assoc]
  have e2 : s' * v = t' * u := Int.eq_of_mul_eq_mul_left (by omega) e
  have d : s' ∣ u := by
    have h3 : s'.natAbs ∣ t'.natAbs * u.natAbs := ⟨v.natAbs, by rw [← Int.natAbs_mul, ← Int.natAbs_mul, e2]⟩
    exact Int.natAbs_dvd_natAbs.mp (Nat.Coprime.dvd_of_dvd_mul_left (show Nat.Coprime s'.natAbs t'.natAbs from cop) h3)
  obtain ⟨z, rfl⟩ := d
  have e3 : x - y = s' * (g * t') * z := by rw [hu]; grind
  have M0 : 0 < s' * (g * t') := by omega
  generalize s' * (g * t') = M at *
  by_cases hz : z = 0
  · subst hz; omega
  · exfalso
    by_cases hp : 0 < z
    · have := Int.mul_le_mul_of_nonneg_left (show 1 ≤ z by omega) (show 0 ≤ M by omega)
      omega
    · have := Int.mul_le_mul_of_nonneg_left (show z ≤ -1 by omega) (show 0 ≤ M by omega)
      omega
theorem mod_of_dvd {s x a : Int} (h : s ∣ x - a) (h0 : 0 ≤ a) (h1 : a < s) : x % s = a := by
  obtain ⟨k, hk⟩ := h
  have e : x = a + s * k := by omega
  rw [e, Int.add_mul_emod_self_left]
  exact Int.emod_eq_of_lt h0 h1
theorem law_tail19 (s0 nums : D) (s t a b : Int) (hs : 0 < s) (ht : 0 < t) (bs : s < 10 ^ 40) (bt : t < 10 ^ 40) (a0 : 0 ≤ a) (a1 : a < s) (b0 : 0 ≤ b) (b1 : b < t) (x3 x5 x6 x7 x8 x9 : EV) :
    q5_law_0 [.dat s0, .dat nums, .dat (.lst [.int s, .int t]), x3, .dat (.lst [.int a, .int b]), x5, x6, x7, x8, x9] = .rt (.bl true) := by
  have k1 : (10 : Int) ^ 40 < 10 ^ 100 := by decide
  have k2 : (10 : Int) ^ 40 = ((10 ^ 40 : Nat) : Int) := by norm_cast
  have k3 : (10 : Nat) ^ 40 < 10 ^ 99 := by decide
  have k4 : (10 : Nat) ^ 40 < 10 ^ 300 := by decide
  have k5 : (10 : Int) ^ 40 * 10 ^ 40 < 2 ^ 390 := by decide
  have k6 : (10 : Int) ^ 40 * 10 ^ 40 < 10 ^ 300 := by decide
  have p1 : s * t ≤ 10 ^ 40 * 10 ^ 40 := Int.mul_le_mul (by omega) (by omega) (by omega) (by decide)
  have dv := law_divisor s t hs ht (by omega)
  have sz2 : (2 : Nat) ≤ sizeLine := by decide
  have i20 : fIx (.lst [.int s, .int t]) (.int 0) = .ok (.int s) := fIx_lst (by decide) rfl
  have i21 : fIx (.lst [.int s, .int t]) (.int 1) = .ok (.int t) := fIx_lst (by decide) rfl
  have i40 : fIx (.lst [.int a, .int b]) (.int 0) = .ok (.int a) := fIx_lst (by decide) rfl
  have i41 : fIx (.lst [.int a, .int b]) (.int 1) = .ok (.int b) := fIx_lst (by decide) rfl
  have g0 : (0 : Int) < Int.gcd s t := by
    have := Int.gcd_pos_of_ne_zero_left t (show s ≠ 0 by omega)
    omega
  have gc : Int.gcd t s = Int.gcd s t := Int.gcd_comm t s
  by_cases hc : (b - a) % (Int.gcd s t : Int) = 0
  · have hc2 : (a - b) % (Int.gcd t s : Int) = 0 := by
      rw [gc, dvd_iff]
      have := Int.dvd_neg.mpr (dvd_iff.mp hc)
      rw [show a - b = -(b - a) by omega]; exact this
    obtain ⟨x, x0, x1, x2, x3', c1⟩ := chinese_some a s b t hs ht (by omega) (by omega) (by omega) (by omega) hc
    obtain ⟨y, y0, y1, y2, y3, c2⟩ := chinese_some b t a s ht hs (by omega) (by omega) (by omega) (by omega) hc2
    rw [gc] at hc2
    have em : t / (Int.gcd t s : Int) * s = s / (Int.gcd s t : Int) * t := by
      rw [gc]
      obtain ⟨u, hu⟩ := Int.gcd_dvd_left s t
      obtain ⟨v, hv⟩ := Int.gcd_dvd_right s t
      have e1 : s / (Int.gcd s t : Int) = u := by conv => lhs; lhs; rw [hu]
                                                  exact Int.mul_ediv_cancel_left _ (by omega)
      have e2 : t / (Int.gcd s t : Int) = v := by conv => lhs; lhs; rw [hv]
                                                  exact Int.mul_ediv_cancel_left _ (by omega)
      rw [e1, e2]
      generalize (Int.gcd s t : Int) = g at *
      subst hu hv
      grind
    rw [em] at y1 c2
    have exy : x = y := same_class s t x y hs ht x0 x1 y0 y1 (by
      have := Int.dvd_sub x2 y3
      rw [show x - a - (y - a) = x - y by omega] at this; exact this) (by
      have := Int.dvd_sub x3' y2
      rw [show x - b - (y - b) = x - y by omega] at this; exact this)
    subst exy
    have xs := mod_of_dvd x2 a0 a1
    have xt := mod_of_dvd x3' b0 b1
    have eM : s / (Int.gcd s t : Int) * t * (Int.gcd s t : Int) = s * t := by
      obtain ⟨u, hu⟩ := Int.gcd_dvd_left s t
      have e1 : s / (Int.gcd s t : Int) = u := by conv => lhs; lhs; rw [hu]
                                                  exact Int.mul_ediv_cancel_left _ (by omega)
      rw [e1]
      generalize (Int.gcd s t : Int) = g at *
      subst hu
      grind
    have gle : (Int.gcd s t : Int) ≤ s := Int.le_of_dvd hs (Int.gcd_dvd_left s t)
    have Mle : s / (Int.gcd s t : Int) * t ≤ s * t := by
      have := Int.mul_le_mul_of_nonneg_left (show 1 ≤ (Int.gcd s t : Int) by omega) (show 0 ≤ s / (Int.gcd s t : Int) * t by omega)
      omega
    have ne := fNe_refl (lay_two x (s / (Int.gcd s t : Int) * t)) (by decide)
    have m2 := fMul_w (i := s) (j := t) (by omega) (by omega)
    have m1 : fMul (.int (s / (Int.gcd s t : Int) * t)) (.int (Int.gcd s t)) = .ok (.int (s * t)) := by
      rw [fMul_w (by omega) (by omega), eM]
    clear em eM gle Mle x2 x3' y2 y3 y0 y1 k1 k2 k3 k4 k5 k6 p1 hc bs bt gc a0 a1 b0 b1
    generalize s / (Int.gcd s t : Int) * t = M at *
    generalize (Int.gcd s t : Int) = g at *
    generalize D.lst [.int s, .int t] = S at *
    generalize D.lst [.int a, .int b] = R at *
    unfold q5_law_0
    walk_at "dl"
  · have hc2 : (a - b) % (Int.gcd s t : Int) ≠ 0 := fun h => hc (by
      rw [dvd_iff] at h ⊢
      have := Int.dvd_neg.mpr h
      rw [show b - a = -(a - b) by omega]; exact this)
    have c1 := chinese_none a s b t hs hc
    have c2 := chinese_none b t a s ht (by rw [gc]; exact hc2)
    have ne := fNe_non
    have fs : fIs .non .non = .ok (.bl true) := rfl
    clear k1 k2 k3 k4 k5 k6 p1 hc bs bt gc a0 a1 b0 b1
    generalize (Int.gcd s t : Int) = g at *
    generalize D.lst [.int s, .int t] = S at *
    generalize D.lst [.int a, .int b] = R at *
    unfold q5_law_0
    walk_at "dl"
end DL
end

section
set_option linter.all false
set_option maxRecDepth 100000
set_option maxHeartbeats 4000000
set_option exponentiation.threshold 2000
namespace DL
open PySem L2
local macro_rules | `(tactic| walk_at "dl") => `(tactic| simp [pSeq, pSet, pSetO, pWith, pBin, pV, pVo, pC, pCall, pCons, pNil, pTup, pLst, pUn, pIf, pIfS, pRet, pDrop, pAsg, pPar, pAug, pApp, pFrz, frzE, pB, pTr, pNot, pAnd, pOr, pAndV, pOrV, pNotV, pChain, pNext, pFn, arity, pIter, pFor, pRg1, pRg2, pSl, pNo, pPart, pWhile, fuelI, pIsi, pIsiT, tyN, isiOk, isiB, isiAny, pLc, pYes, lcL, wipeE, sz_eq, *])
theorem rg2 : rgD 0 2 = [.int 0, .int 1] := rfl
theorem law_q3 (s0 N : D) (s t x5 x6 x7 x8 x9 x10 x11 : Int) (hs : 0 < s) (ht : 0 < t) (bs : s < 10 ^ 40) (bt : t < 10 ^ 40)
    (i5 : fIx N (.int 5) = .ok (.int x5)) (i6 : fIx N (.int 6) = .ok (.int x6)) (i7 : fIx N (.int 7) = .ok (.int x7)) (i8 : fIx N (.int 8) = .ok (.int x8)) (i9 : fIx N (.int 9) = .ok (.int x9)) (i11 : fIx N (.int 11) = .ok (.int x11))
    (h5 : 0 ≤ x5 ∧ x5 < 1009) (p10 : f_law_pick [N, .int 10, .int 2] = .ok (.int (x10 % 2))) (y3 : EV) :
    q3_law_0 [.dat s0, .dat N, .dat (.lst [.int s, .int t]), y3, .unb, .unb, .unb, .unb, .unb, .unb] = .rt (.bl true) := by
  have tl : ∀ z1 z2 : Int, ∀ w : EV, q5_law_0 [.dat s0, .dat N, .dat (.lst [.int s, .int t]), y3, .dat (.lst [.int (z1 % s), .int (z2 % t)]), w, .unb, .unb, .unb, .unb] = .rt (.bl true) := fun z1 z2 w =>
    law_tail19 s0 N s t (z1 % s) (z2 % t) hs ht bs bt (Int.emod_nonneg _ (by omega)) (Int.emod_lt_of_pos _ hs) (Int.emod_nonneg _ (by omega)) (Int.emod_lt_of_pos _ ht) y3 w .unb .unb .unb .unb
  have pw9 : fPow (.int 10) (.int 9) = .ok (.int 1000000000) := rfl
  have pw3 : fPow (.int 10) (.int 3) = .ok (.int 1000) := rfl
  have pw20 : fPow (.int 10) (.int 20) = .ok (.int 100000000000000000000) := rfl
  have pw8 : fPow (.int 10) (.int 8) = .ok (.int 100000000) := rfl
  have m9 : ∀ z : Int, fMul (.int z) (.int 1000000000) = .ok (.int (z * 1000000000)) := fun z => fMul_r (by decide)
  have m3 : ∀ z : Int, fMul (.int z) (.int 1000) = .ok (.int (z * 1000)) := fun z => fMul_r (by decide)
  have m8 : ∀ z : Int, fMul (.int z) (.int 100000000) = .ok (.int (z * 100000000)) := fun z => fMul_r (by decide)
  have m20 : ∀ z : Int, z.natAbs < 10 ^ 300 → fMul (.int z) (.int 100000000000000000000) = .ok (.int (z * 100000000000000000000)) := fun z hz => fMul_w hz (by decide)
  have a0 : fMul (.int 2) (.int 0) = .ok (.int 0) := rfl
  have a1 : fMul (.int 2) (.int 1) = .ok (.int 2) := rfl
  have i20 : fIx (.lst [.int s, .int t]) (.int 0) = .ok (.int s) := fIx_lst (by decide) rfl
  have i21 : fIx (.lst [.int s, .int t]) (.int 1) = .ok (.int t) := fIx_lst (by decide) rfl
  have m20' := m20 x5 (by have k : (2000 : Nat) < 10 ^ 300 := by decide
                          omega)
  clear m20 bs bt h5
  generalize hS : D.lst [.int s, .int t] = S at *
  have c0 : e_law_2 [.dat s0, .dat N, .dat S, y3, .unb, .unb, .unb, .unb, .dat (.int 0), .unb] = .ok (.int ((x5 * 1000000000 + x7 * 1000 + x9) % s)) := by
    unfold e_law_2
    walk_at "dl"
  have c1 : e_law_2 [.dat s0, .dat N, .dat S, y3, .unb, .unb, .unb, .unb, .dat (.int 1), .unb] = .ok (.int ((x6 * 1000000000 + x8 * 1000 + x11) % t)) := by
    unfold e_law_2
    walk_at "dl"
  have c2 : ∀ (z : Int) (w : EV), e_law_3 [.dat s0, .dat N, .dat S, y3, w, .dat (.int z), .unb, .unb, .unb, .dat (.int s)] = .ok (.int (z % s)) := fun z w => by
    unfold e_law_3
    walk_at "dl"
  have c3 : ∀ (z : Int) (w : EV), e_law_3 [.dat s0, .dat N, .dat S, y3, w, .dat (.int z), .unb, .unb, .unb, .dat (.int t)] = .ok (.int (z % t)) := fun z w => by
    unfold e_law_3
    walk_at "dl"
  have hr : rgOk 2 = true := rgOk_of (by decide) (by decide)
  have hg := rg2
  have t1 := tl (x5 * 1000000000 + x7 * 1000 + x9) (x6 * 1000000000 + x8 * 1000 + x11)
  have t2 := tl (x5 * 100000000000000000000 + x6 * 100000000 + x7) (x5 * 100000000000000000000 + x6 * 100000000 + x7)

  clear tl
  unfold q3_law_0
  by_cases hc : x10 % 2 = 0
  · subst hS
    walk_at "dl"
  · subst hS
    walk_at "dl"
theorem law_k19 (ns : List Int) (hn : ns.length ≤ 63) : f_law [.kl (ns.map .int)] = .ok (.bl true) := by
  obtain ⟨L, hL, hd, e⟩ := law_numbers ns 12 (by decide) (by decide) hn
  have hl : L.length = 12 := by omega
  match L, hl with
  | [x0, x1, x2, x3, x4, x5, x6, x7, x8, x9, x10, x11], _ =>
    have hpk : ∀ (i m x : Int), 0 ≤ i → [x0, x1, x2, x3, x4, x5, x6, x7, x8, x9, x10, x11][i.toNat]? = some x → 0 < m → f_law_pick [.lst (dI [x0, x1, x2, x3, x4, x5, x6, x7, x8, x9, x10, x11]), .int i, .int m] = .ok (.int (x % m)) := fun i m x => law_pick _ i m x
    have hix : ∀ (i x : Int), 0 ≤ i → [x0, x1, x2, x3, x4, x5, x6, x7, x8, x9, x10, x11][i.toNat]? = some x → fIx (.lst (dI [x0, x1, x2, x3, x4, x5, x6, x7, x8, x9, x10, x11])) (.int i) = .ok (.int x) := fun i x h0 hx => fIx_lst h0 (by rw [dI, List.getElem?_map, hx]; rfl)
    have d3 := hd x3 (by simp)
    have d4 := hd x4 (by simp)
    have d5 := hd x5 (by simp)
    generalize dI [x0, x1, x2, x3, x4, x5, x6, x7, x8, x9, x10, x11] = NN at *
    have p0 := hpk 0 30 x0 (by decide) rfl (by decide)
    have p1 := hpk 1 30 x1 (by decide) rfl (by decide)
    have p2 := hpk 2 4 x2 (by decide) rfl (by decide)
    have p10 := hpk 10 2 x10 (by decide) rfl (by decide)
    have i3 := hix 3 x3 (by decide) rfl
    have i4 := hix 4 x4 (by decide) rfl
    have i5 := hix 5 x5 (by decide) rfl
    have i6 := hix 6 x6 (by decide) rfl
    have i7 := hix 7 x7 (by decide) rfl
    have i8 := hix 8 x8 (by decide) rfl
    have i9 := hix 9 x9 (by decide) rfl
    have i11 := hix 11 x11 (by decide) rfl
    have q : ∀ (s t : Int) (y3 : EV), 0 < s → 0 < t → s < 10 ^ 40 → t < 10 ^ 40 → q3_law_0 [.dat (.kl (dI ns)), .dat (.lst NN), .dat (.lst [.int s, .int t]), y3, .unb, .unb, .unb, .unb, .unb, .unb] = .rt (.bl true) := fun s t y3 hs ht bs bt =>
      law_q3 _ _ s t x5 x6 x7 x8 x9 x10 x11 hs ht bs bt i5 i6 i7 i8 i9 i11 d5 p10 y3
    have pw12 : fPow (.int 10) (.int 12) = .ok (.int 1000000000000) := rfl
    have pw6 : fPow (.int 10) (.int 6) = .ok (.int 1000000) := rfl
    have m12 : ∀ z : Int, fMul (.int z) (.int 1000000000000) = .ok (.int (z * 1000000000000)) := fun z => fMul_r (by decide)
    have m6 : ∀ z : Int, fMul (.int z) (.int 1000000) = .ok (.int (z * 1000000)) := fun z => fMul_r (by decide)
    have hr : rgOk 2 = true := rgOk_of (by decide) (by decide)
    have hg := rg2
    have st0 : 0 < 1 + x3 * 1000000000000 + x4 * 1000000 := by omega
    have st1 : 1 + x3 * 1000000000000 + x4 * 1000000 < 10000000000000000000000 := by omega
    have big : (1000000000000000000000000 : Int) < 10 ^ 40 := by decide
    have u0 : 0 < 1 + x0 % 30 ∧ 1 + x0 % 30 < 31 := by omega
    have u1 : 0 < 1 + x1 % 30 ∧ 1 + x1 % 30 < 31 := by omega
    have q1 := fun y3 => q (1 + x0 % 30) (1 + x1 % 30) y3 (by omega) (by omega) (by omega) (by omega)
    have c0 : e_law_0 [.dat (.kl (dI ns)), .dat (.lst NN), .unb, .unb, .unb, .unb, .unb, .unb, .dat (.int 0), .unb] = .ok (.int (1 + x0 % 30)) := by
      unfold e_law_0
      clear q hpk hix
      walk_at "dl"
    have c1 : e_law_0 [.dat (.kl (dI ns)), .dat (.lst NN), .unb, .unb, .unb, .unb, .unb, .unb, .dat (.int 1), .unb] = .ok (.int (1 + x1 % 30)) := by
      unfold e_law_0
      clear q hpk hix
      walk_at "dl"
    generalize hst : 1 + x3 * 1000000000000 + x4 * 1000000 = st at *
    generalize hu0 : 1 + x0 % 30 = s0 at *
    generalize hu1 : 1 + x1 % 30 = t0 at *
    have p3 : s0 * st ≤ 31 * st := Int.mul_le_mul_of_nonneg_right (by omega) (by omega)
    have p4 : t0 * st ≤ 31 * st := Int.mul_le_mul_of_nonneg_right (by omega) (by omega)
    have q2 := q (s0 * st) (t0 * st) (.dat (.int st)) (Int.mul_pos (by omega) st0) (Int.mul_pos (by omega) st0) (by omega) (by omega)
    have n0 : fMul (.int s0) (.int st) = .ok (.int (s0 * st)) := fMul_l (by omega)
    have n1 : fMul (.int t0) (.int st) = .ok (.int (t0 * st)) := fMul_l (by omega)
    have c2 : ∀ w : EV, e_law_1 [.dat (.kl (dI ns)), .dat (.lst NN), w, .dat (.int st), .unb, .unb, .unb, .unb, .unb, .dat (.int s0)] = .ok (.int (s0 * st)) := fun w => by
      unfold e_law_1
      clear q hpk hix
      walk_at "dl"
    have c3 : ∀ w : EV, e_law_1 [.dat (.kl (dI ns)), .dat (.lst NN), w, .dat (.int st), .unb, .unb, .unb, .unb, .unb, .dat (.int t0)] = .ok (.int (t0 * st)) := fun w => by
      unfold e_law_1
      clear q hpk hix
      walk_at "dl"
    show runF 10 p_law [.kl (dI ns)] = _
    clear q hpk hix p3 p4 d3 d4 d5 hd st0 st1 big u0 u1 hL hn
    generalize D.kl (dI ns) = sc at *
    have hst2 : 1 + (x3 * 1000000000000 + x4 * 1000000) = st := by omega
    unfold runF p_law
    by_cases hc : x2 % 4 = 1
    · walk_at "dl"
    · walk_at "dl"
end DL
end

section
set_option linter.all false
set_option maxRecDepth 100000
set_option maxHeartbeats 8000000
namespace DL
open PySem PySem.Spec L2
def top (i : Nat) : Stmt := PySem.Challenge.pw_cushioned_k19_chinese.main.body.getD i (.Pass ⟨0, 0, 0, 0⟩)
abbrev s_inverse : Stmt := top 2
abbrev s_chinese : Stmt := top 3
abbrev s_law_row : Stmt := top 5
abbrev s_law_numbers : Stmt := top 6
abbrev s_law_pick : Stmt := top 7
abbrev s_law_divisor : Stmt := top 8
abbrev s_law : Stmt := top 9
structure Txt (E : Am) (mg : Str → Option Value) : Prop where
  n_abs : mg "abs" = none
  n_bool : mg "bool" = none
  n_int : mg "int" = none
  n_isinstance : mg "isinstance" = none
  n_len : mg "len" = none
  n_max : mg "max" = none
  n_range : mg "range" = none
  n_tuple : mg "tuple" = none
  b_gcd : mg "gcd" = some (.builtin "math.gcd")
  g_law_divisor : mg "_law_divisor" = some (.ref (E.cl "_law_divisor"))
  g_law_numbers : mg "_law_numbers" = some (.ref (E.cl "_law_numbers"))
  g_law_pick : mg "_law_pick" = some (.ref (E.cl "_law_pick"))
  g_law_row : mg "_law_row" = some (.ref (E.cl "_law_row"))
  g_chinese : mg "chinese" = some (.ref (E.cl "chinese"))
  g_inverse : mg "inverse" = some (.ref (E.cl "inverse"))
section
variable {P : Program} {w : World} {E : Am} {mg : Str → Option Value} {base : Heap}
theorem sc_inverse : FnScope ["number", "modulus", "left", "right", "factor", "following", "quotient"] ["number", "modulus"] (defScope s_inverse) := ⟨rfl, rfl, rfl, by decide +kernel, rfl, by decide +kernel, by decide +kernel⟩
theorem ok_inverse (T : Txt E mg) (hF : ∃ fd, FunD E.K "inverse" "inverse" (defArgs s_inverse) (defBody s_inverse) (defScope s_inverse) [] [] (E.cl "inverse") fd) : FnX P w E mg base 1 (E.cl "inverse") ["number", "modulus"] f_inverse := by
  obtain ⟨fd, F⟩ := hF
  have hB : Binds E.K fd ["number", "modulus"] [] := F.bindsN (fun _ _ _ _ _ _ us hl => match us, hl with | [_, _], _ => rfl)
  refine fnX_mk (m := 7) (k := 0) (p := p_inverse) F sc_inverse rfl rfl hB (fun cdv A outer s H Ex hr => ?_)
  have c := bd_ctx (P := P) (w := w) (E := E) (mg := mg) (base := base) (N := ["number", "modulus", "left", "right", "factor", "following", "quotient"]) (Ex := Ex) (H := H) (outer := outer) hr
  have nd : (["number", "modulus", "left", "right", "factor", "following", "quotient"] : List Str).Nodup := sc_inverse.nd
  exact (xss_cons (xs_par c ⟨fun _ => nd, fun _ => rfl, fun _ => (by first | exact Or.inl rfl | exact Or.inr rfl), fun _ => Or.inl rfl⟩ ⟨fun _ => nd, fun _ => rfl, fun _ => (by first | exact Or.inl rfl | exact Or.inr rfl), fun _ => Or.inl rfl⟩ (by decide) (fun _ => rfl) (fun _ => rfl) (xa_cons (xe_var fun _ => pv 0) (xa_cons (xe_var fun _ => pv 1) xa_nil)))
    (xss_cons (xs_asg (xe_tup (xa_cons xe_int (xa_cons xe_int xa_nil))) (xg_tup c (xgs_cons (xg_name fun _ => pg_name (i := 4) nd rfl (by first | exact Or.inl rfl | exact Or.inr rfl)) (xgs_cons (xg_name fun _ => pg_name (i := 5) nd rfl (by first | exact Or.inl rfl | exact Or.inr rfl)) xgs_nil)) (gs_lenS (gs_lenS gs_len0))))
    (xss_cons (xs_while (fun ρ => fuelI 3 ρ) c (zt_cmp (cmp_gt c) (XE.loose (xe_var fun _ => pv 3)) (XE.loose xe_int) (nomark _))
    (xss_cons (xs_set ⟨fun _ => nd, fun _ => rfl, fun _ => (by first | exact Or.inl rfl | exact Or.inr rfl), fun _ => Or.inl rfl⟩ (xe_div c (XE.loose (xe_var fun _ => pv 2)) (XE.loose (xe_var fun _ => pv 3))))
    (xss_cons (xs_par c ⟨fun _ => nd, fun _ => rfl, fun _ => (by first | exact Or.inl rfl | exact Or.inr rfl), fun _ => Or.inl rfl⟩ ⟨fun _ => nd, fun _ => rfl, fun _ => (by first | exact Or.inl rfl | exact Or.inr rfl), fun _ => Or.inl rfl⟩ (by decide) (fun _ => rfl) (fun _ => rfl) (xa_cons (xe_var fun _ => pv 3) (xa_cons (xe_sub c (XE.loose (xe_var fun _ => pv 2)) (XE.loose (xe_mul c (XE.loose (xe_var fun _ => pv 6)) (XE.loose (xe_var fun _ => pv 3))))) xa_nil)))
    (xss_one (xs_par c ⟨fun _ => nd, fun _ => rfl, fun _ => (by first | exact Or.inl rfl | exact Or.inr rfl), fun _ => Or.inl rfl⟩ ⟨fun _ => nd, fun _ => rfl, fun _ => (by first | exact Or.inl rfl | exact Or.inr rfl), fun _ => Or.inl rfl⟩ (by decide) (fun _ => rfl) (fun _ => rfl) (xa_cons (xe_var fun _ => pv 5) (xa_cons (xe_sub c (XE.loose (xe_var fun _ => pv 4)) (XE.loose (xe_mul c (XE.loose (xe_var fun _ => pv 6)) (XE.loose (xe_var fun _ => pv 5))))) xa_nil)))))))
    (xss_one (xs_ret (xe_mod c (XE.loose (xe_var fun _ => pv 4)) (XE.loose (xe_var fun _ => pv 1))))))))
theorem sc_chinese : FnScope ["one", "other", "first", "size", "second", "width", "divisor", "step", "modulus"] ["one", "other"] (defScope s_chinese) := ⟨rfl, rfl, rfl, by decide +kernel, rfl, by decide +kernel, by decide +kernel⟩
theorem ok_chinese (T : Txt E mg) (hF : ∃ fd, FunD E.K "chinese" "chinese" (defArgs s_chinese) (defBody s_chinese) (defScope s_chinese) [] [] (E.cl "chinese") fd) (h_inverse : FnX P w E mg base 1 (E.cl "inverse") ["number", "modulus"] f_inverse) : FnX P w E mg base 2 (E.cl "chinese") ["one", "other"] f_chinese := by
  obtain ⟨fd_inverse, G_inverse, B_inverse, K_inverse⟩ := h_inverse.ex
  obtain ⟨fd, F⟩ := hF
  have hB : Binds E.K fd ["one", "other"] [] := F.bindsN (fun _ _ _ _ _ _ us hl => match us, hl with | [_, _], _ => rfl)
  refine fnX_mk (m := 9) (k := 1) (p := p_chinese) F sc_chinese rfl rfl hB (fun cdv A outer s H Ex hr => ?_)
  have c := bd_ctx (P := P) (w := w) (E := E) (mg := mg) (base := base) (N := ["one", "other", "first", "size", "second", "width", "divisor", "step", "modulus"]) (Ex := Ex) (H := H) (outer := outer) hr
  have nd : (["one", "other", "first", "size", "second", "width", "divisor", "step", "modulus"] : List Str).Nodup := sc_chinese.nd
  exact (xss_cons (xs_asg (xe_var fun _ => pv 0) (xg_tup c (xgs_cons (xg_name fun _ => pg_name (i := 2) nd rfl (by first | exact Or.inl rfl | exact Or.inr rfl)) (xgs_cons (xg_name fun _ => pg_name (i := 3) nd rfl (by first | exact Or.inl rfl | exact Or.inr rfl)) xgs_nil)) (gs_lenS (gs_lenS gs_len0))))
    (xss_cons (xs_asg (xe_var fun _ => pv 1) (xg_tup c (xgs_cons (xg_name fun _ => pg_name (i := 4) nd rfl (by first | exact Or.inl rfl | exact Or.inr rfl)) (xgs_cons (xg_name fun _ => pg_name (i := 5) nd rfl (by first | exact Or.inl rfl | exact Or.inr rfl)) xgs_nil)) (gs_lenS (gs_lenS gs_len0))))
    (xss_cons (xs_set ⟨fun _ => nd, fun _ => rfl, fun _ => (by first | exact Or.inl rfl | exact Or.inr rfl), fun _ => Or.inl rfl⟩ (xe_callBfun (fun _ => cr_gcd) cals_gcd (fun _ => rfl) (fun _ => T.b_gcd) (xal_cons (XE.loose (xe_var fun _ => pv 3)) (xal_cons (XE.loose (xe_var fun _ => pv 5)) xal_nil))))
    (xss_cons (xs_if (zt_cmp (cmp_ne c) (XE.loose (xe_mod c (XE.loose (xe_sub c (XE.loose (xe_var fun _ => pv 4)) (XE.loose (xe_var fun _ => pv 2)))) (XE.loose (xe_var fun _ => pv 6)))) (XE.loose xe_int) (nomark _))
    (xss_one (xs_ret xe_non))
    xss_nil)
    (xss_cons (xs_set ⟨fun _ => nd, fun _ => rfl, fun _ => (by first | exact Or.inl rfl | exact Or.inr rfl), fun _ => Or.inl rfl⟩ (xe_mul c (XE.loose (xe_div c (XE.loose (xe_sub c (XE.loose (xe_var fun _ => pv 4)) (XE.loose (xe_var fun _ => pv 2)))) (XE.loose (xe_var fun _ => pv 6)))) (XE.loose (xe_call c (fun _ => G_inverse) (by decide) (fun _ => rfl) (fun _ => T.g_inverse) K_inverse B_inverse .nil (fun _ => rfl) (xa_cons (xe_div c (XE.loose (xe_var fun _ => pv 3)) (XE.loose (xe_var fun _ => pv 6))) (xa_cons (xe_div c (XE.loose (xe_var fun _ => pv 5)) (XE.loose (xe_var fun _ => pv 6))) xa_nil))))))
    (xss_cons (xs_set ⟨fun _ => nd, fun _ => rfl, fun _ => (by first | exact Or.inl rfl | exact Or.inr rfl), fun _ => Or.inl rfl⟩ (xe_mul c (XE.loose (xe_div c (XE.loose (xe_var fun _ => pv 3)) (XE.loose (xe_var fun _ => pv 6)))) (XE.loose (xe_var fun _ => pv 5))))
    (xss_one (xs_ret (xe_tup (xa_cons (xe_mod c (XE.loose (xe_add c (XE.loose (xe_var fun _ => pv 2)) (XE.loose (xe_mul c (XE.loose (xe_var fun _ => pv 3)) (XE.loose (xe_mod c (XE.loose (xe_var fun _ => pv 7)) (XE.loose (xe_div c (XE.loose (xe_var fun _ => pv 5)) (XE.loose (xe_var fun _ => pv 6)))))))))) (XE.loose (xe_var fun _ => pv 8))) (xa_cons (xe_var fun _ => pv 8) xa_nil)))))))))))
theorem sc_law_row : FnScope ["_law_cell", "_law_many", "_law_row_here", "_law_rest", "_law_mixed", "_law_k"] ["_law_cell", "_law_many"] (defScope s_law_row) := ⟨rfl, rfl, rfl, by decide +kernel, rfl, by decide +kernel, by decide +kernel⟩
theorem ok_law_row (T : Txt E mg) (hF : ∃ fd, FunD E.K "_law_row" "_law_row" (defArgs s_law_row) (defBody s_law_row) (defScope s_law_row) [] [] (E.cl "_law_row") fd) : FnX P w E mg base 1 (E.cl "_law_row") ["_law_cell", "_law_many"] f_law_row := by
  obtain ⟨fd, F⟩ := hF
  have hB : Binds E.K fd ["_law_cell", "_law_many"] [] := F.bindsN (fun _ _ _ _ _ _ us hl => match us, hl with | [_, _], _ => rfl)
  refine fnX_mk (m := 6) (k := 0) (p := p_law_row) F sc_law_row rfl rfl hB (fun cdv A outer s H Ex hr => ?_)
  have c := bd_ctx (P := P) (w := w) (E := E) (mg := mg) (base := base) (N := ["_law_cell", "_law_many", "_law_row_here", "_law_rest", "_law_mixed", "_law_k"]) (Ex := Ex) (H := H) (outer := outer) hr
  have nd : (["_law_cell", "_law_many", "_law_row_here", "_law_rest", "_law_mixed", "_law_k"] : List Str).Nodup := sc_law_row.nd
  exact (xss_cons (xs_setO ⟨fun _ => nd, fun _ => rfl, fun _ => (by first | exact Or.inl rfl | exact Or.inr rfl), fun _ => Or.inl rfl⟩ (xn_lst xa_nil))
    (xss_cons (xs_set ⟨fun _ => nd, fun _ => rfl, fun _ => (by first | exact Or.inl rfl | exact Or.inr rfl), fun _ => Or.inl rfl⟩ (ye_abs c T.n_abs (fun _ => rfl) (fun _ => rfl) (xal_cons (XE.loose (xe_var fun _ => pv 0)) xal_nil)))
    (xss_cons (xs_set ⟨fun _ => nd, fun _ => rfl, fun _ => (by first | exact Or.inl rfl | exact Or.inr rfl), fun _ => Or.inl rfl⟩ (xe_mod c (XE.loose (ye_int c T.n_int (fun _ => rfl) (fun _ => rfl) (xal_cons (XE.loose (xe_add c (XE.loose (xe_mul c (XE.loose (xe_var fun _ => pv 3)) (XE.loose xe_int))) (XE.loose xe_int))) xal_nil))) (XE.loose xe_int)))
    (xss_cons (xs_for c (xi_range1 (fun _ => rfl) (fun _ => T.n_range) (xal_cons (XE.loose (xe_var fun _ => pv 1)) xal_nil)) (xg_name fun _ => pg_name (i := 5) nd rfl (by first | exact Or.inl rfl | exact Or.inr rfl))
    (xss_cons (xs_set ⟨fun _ => nd, fun _ => rfl, fun _ => (by first | exact Or.inl rfl | exact Or.inr rfl), fun _ => Or.inl rfl⟩ (xe_mod c (XE.loose (ye_int c T.n_int (fun _ => rfl) (fun _ => rfl) (xal_cons (XE.loose (xe_add c (XE.loose (xe_mul c (XE.loose (xe_var fun _ => pv 4)) (XE.loose xe_int))) (XE.loose (xe_mul c (XE.loose xe_int) (XE.loose (xe_add c (XE.loose (xe_var fun _ => pv 5)) (XE.loose xe_int))))))) xal_nil))) (XE.loose xe_int)))
    (xss_one (xs_if (zt_cmp (cmp_ge c) (XE.loose (ye_abs c T.n_abs (fun _ => rfl) (fun _ => rfl) (xal_cons (XE.loose (xe_var fun _ => pv 0)) xal_nil))) (XE.loose (xe_pow c (XE.loose xe_int) (XE.loose xe_int))) (nomark _))
    (xss_cons (xs_app c (fun _ => pv 2) (xe_mod c (XE.loose (ye_int c T.n_int (fun _ => rfl) (fun _ => rfl) (xal_cons (XE.loose (xe_var fun _ => pv 3)) xal_nil))) (XE.loose xe_int)))
    (xss_one (xs_set ⟨fun _ => nd, fun _ => rfl, fun _ => (by first | exact Or.inl rfl | exact Or.inr rfl), fun _ => Or.inl rfl⟩ (xe_div c (XE.loose (xe_var fun _ => pv 3)) (XE.loose xe_int)))))
    (xss_one (xs_app c (fun _ => pv 2) (xe_mod c (XE.loose (ye_int c T.n_int (fun _ => rfl) (fun _ => rfl) (xal_cons (XE.loose (xe_div c (XE.loose (xe_var fun _ => pv 4)) (XE.loose xe_int))) xal_nil))) (XE.loose xe_int))))))))
    (zss_frz 2 (xss_one (xs_ret (xe_var fun _ => pv 2))))))))
theorem sc_law_numbers : FnScope ["_law_script", "_law_many", "_law_cells", "_law_each", "_law_numbers_here", "_law_cell", "_law_number"] ["_law_script", "_law_many"] (defScope s_law_numbers) := ⟨rfl, rfl, rfl, by decide +kernel, rfl, by decide +kernel, by decide +kernel⟩
theorem ok_law_numbers (T : Txt E mg) (hF : ∃ fd, FunD E.K "_law_numbers" "_law_numbers" (defArgs s_law_numbers) (defBody s_law_numbers) (defScope s_law_numbers) [] [] (E.cl "_law_numbers") fd) (h_law_row : FnX P w E mg base 1 (E.cl "_law_row") ["_law_cell", "_law_many"] f_law_row) : FnX P w E mg base 2 (E.cl "_law_numbers") ["_law_script", "_law_many"] f_law_numbers := by
  obtain ⟨fd_law_row, G_law_row, B_law_row, K_law_row⟩ := h_law_row.ex
  obtain ⟨fd, F⟩ := hF
  have hB : Binds E.K fd ["_law_script", "_law_many"] [] := F.bindsN (fun _ _ _ _ _ _ us hl => match us, hl with | [_, _], _ => rfl)
  refine fnX_mk (m := 7) (k := 1) (p := p_law_numbers) F sc_law_numbers rfl rfl hB (fun cdv A outer s H Ex hr => ?_)
  have c := bd_ctx (P := P) (w := w) (E := E) (mg := mg) (base := base) (N := ["_law_script", "_law_many", "_law_cells", "_law_each", "_law_numbers_here", "_law_cell", "_law_number"]) (Ex := Ex) (H := H) (outer := outer) hr
  have nd : (["_law_script", "_law_many", "_law_cells", "_law_each", "_law_numbers_here", "_law_cell", "_law_number"] : List Str).Nodup := sc_law_numbers.nd
  exact (xss_cons (xs_set ⟨fun _ => nd, fun _ => rfl, fun _ => (by first | exact Or.inl rfl | exact Or.inr rfl), fun _ => Or.inl rfl⟩ (xe_slice c (XE.loose (xe_var fun _ => pv 0)) xo_none (xo_some (XE.loose xe_int))))
    (xss_cons (xs_set ⟨fun _ => nd, fun _ => rfl, fun _ => (by first | exact Or.inl rfl | exact Or.inr rfl), fun _ => Or.inl rfl⟩ (xe_add c (XE.loose xe_int) (XE.loose (xe_div c (XE.loose (xe_var fun _ => pv 1)) (XE.loose (ye_max2 c T.n_max (fun _ => rfl) (fun _ => rfl) (xal_cons (XE.loose xe_int) (xal_cons (XE.loose (ye_len c T.n_len (fun _ => rfl) (fun _ => rfl) (xal_cons (XE.loose (xe_var fun _ => pv 2)) xal_nil))) xal_nil))))))))
    (xss_cons (xs_setO ⟨fun _ => nd, fun _ => rfl, fun _ => (by first | exact Or.inl rfl | exact Or.inr rfl), fun _ => Or.inl rfl⟩ (xn_lst xa_nil))
    (xss_cons (xs_for c (xi_seq c (xe_var fun _ => pv 2)) (xg_name fun _ => pg_name (i := 5) nd rfl (by first | exact Or.inl rfl | exact Or.inr rfl))
    (xss_one (xs_for c (xi_seq c (xe_call c (fun _ => G_law_row) (by decide) (fun _ => rfl) (fun _ => T.g_law_row) K_law_row B_law_row .nil (fun _ => rfl) (xa_cons (xe_var fun _ => pv 5) (xa_cons (xe_var fun _ => pv 3) xa_nil)))) (xg_name fun _ => pg_name (i := 6) nd rfl (by first | exact Or.inl rfl | exact Or.inr rfl))
    (xss_one (xs_app c (fun _ => pv 4) (xe_var fun _ => pv 6))))))
    (xss_cons (xs_while (fun ρ => fuelI 1 ρ) c (zt_cmp (cmp_lt c) (XE.loose (ye_len c T.n_len (fun _ => rfl) (fun _ => rfl) (xal_cons (xl_var fun _ => pv 4) xal_nil))) (XE.loose (xe_var fun _ => pv 1)) (nomark _))
    (xss_one (xs_app c (fun _ => pv 4) xe_int)))
    (zss_frz 4 (xss_one (xs_ret (xe_slice c (XE.loose (xe_var fun _ => pv 4)) xo_none (xo_some (XE.loose (xe_var fun _ => pv 1))))))))))))
theorem sc_law_pick : FnScope ["_law_numbers_here", "_law_at", "_law_most"] ["_law_numbers_here", "_law_at", "_law_most"] (defScope s_law_pick) := ⟨rfl, rfl, rfl, by decide +kernel, rfl, by decide +kernel, by decide +kernel⟩
theorem ok_law_pick (T : Txt E mg) (hF : ∃ fd, FunD E.K "_law_pick" "_law_pick" (defArgs s_law_pick) (defBody s_law_pick) (defScope s_law_pick) [] [] (E.cl "_law_pick") fd) : FnX P w E mg base 1 (E.cl "_law_pick") ["_law_numbers_here", "_law_at", "_law_most"] f_law_pick := by
  obtain ⟨fd, F⟩ := hF
  have hB : Binds E.K fd ["_law_numbers_here", "_law_at", "_law_most"] [] := F.bindsN (fun _ _ _ _ _ _ us hl => match us, hl with | [_, _, _], _ => rfl)
  refine fnX_mk (m := 3) (k := 0) (p := p_law_pick) F sc_law_pick rfl rfl hB (fun cdv A outer s H Ex hr => ?_)
  have c := bd_ctx (P := P) (w := w) (E := E) (mg := mg) (base := base) (N := ["_law_numbers_here", "_law_at", "_law_most"]) (Ex := Ex) (H := H) (outer := outer) hr
  have nd : (["_law_numbers_here", "_law_at", "_law_most"] : List Str).Nodup := sc_law_pick.nd
  exact (xss_one (xs_ret (xe_mod c (XE.loose (ye_int c T.n_int (fun _ => rfl) (fun _ => rfl) (xal_cons (XE.loose (xe_ix c (XE.loose (xe_var fun _ => pv 0)) (XE.loose (xe_var fun _ => pv 1)))) xal_nil))) (XE.loose (xe_var fun _ => pv 2)))))
theorem sc_law_divisor : FnScope ["_law_one", "_law_other", "_law_turn"] ["_law_one", "_law_other"] (defScope s_law_divisor) := ⟨rfl, rfl, rfl, by decide +kernel, rfl, by decide +kernel, by decide +kernel⟩
theorem ok_law_divisor (T : Txt E mg) (hF : ∃ fd, FunD E.K "_law_divisor" "_law_divisor" (defArgs s_law_divisor) (defBody s_law_divisor) (defScope s_law_divisor) [] [] (E.cl "_law_divisor") fd) : FnX P w E mg base 1 (E.cl "_law_divisor") ["_law_one", "_law_other"] f_law_divisor := by
  obtain ⟨fd, F⟩ := hF
  have hB : Binds E.K fd ["_law_one", "_law_other"] [] := F.bindsN (fun _ _ _ _ _ _ us hl => match us, hl with | [_, _], _ => rfl)
  refine fnX_mk (m := 3) (k := 0) (p := p_law_divisor) F sc_law_divisor rfl rfl hB (fun cdv A outer s H Ex hr => ?_)
  have c := bd_ctx (P := P) (w := w) (E := E) (mg := mg) (base := base) (N := ["_law_one", "_law_other", "_law_turn"]) (Ex := Ex) (H := H) (outer := outer) hr
  have nd : (["_law_one", "_law_other", "_law_turn"] : List Str).Nodup := sc_law_divisor.nd
  exact (xss_cons (xs_for c (xi_range1 (fun _ => rfl) (fun _ => T.n_range) (xal_cons (XE.loose xe_int) xal_nil)) (xg_name fun _ => pg_name (i := 2) nd rfl (by first | exact Or.inl rfl | exact Or.inr rfl))
    (xss_cons (xs_if (zt_cmp (cmp_eq c) (XE.loose (xe_var fun _ => pv 1)) (XE.loose xe_int) (nomark _))
    (xss_one xs_break)
    xss_nil)
    (xss_one (xs_par c ⟨fun _ => nd, fun _ => rfl, fun _ => (by first | exact Or.inl rfl | exact Or.inr rfl), fun _ => Or.inl rfl⟩ ⟨fun _ => nd, fun _ => rfl, fun _ => (by first | exact Or.inl rfl | exact Or.inr rfl), fun _ => Or.inl rfl⟩ (by decide) (fun _ => rfl) (fun _ => rfl) (xa_cons (xe_var fun _ => pv 1) (xa_cons (xe_mod c (XE.loose (ye_int c T.n_int (fun _ => rfl) (fun _ => rfl) (xal_cons (XE.loose (xe_var fun _ => pv 0)) xal_nil))) (XE.loose (xe_var fun _ => pv 1))) xa_nil))))))
    (xss_one (xs_ret (xe_var fun _ => pv 0))))
theorem sc_law : FnScope ["_law_script", "_law_numbers_here", "_law_sizes", "_law_step", "_law_rests", "_law_number", "_law_divisor_here", "_law_found", "_law_k", "_law_size"] ["_law_script"] (defScope s_law) := ⟨rfl, rfl, rfl, by decide +kernel, rfl, by decide +kernel, by decide +kernel⟩
theorem ok_law1 {fd : FuncData} (T : Txt E mg) (F : FunD E.K "law" "law" (defArgs s_law) (defBody s_law) (defScope s_law) [] [] (E.cl "law") fd) (h_law_numbers : FnX P w E mg base 2 (E.cl "_law_numbers") ["_law_script", "_law_many"] f_law_numbers) (h_law_pick : FnX P w E mg base 1 (E.cl "_law_pick") ["_law_numbers_here", "_law_at", "_law_most"] f_law_pick) (h_law_divisor : FnX P w E mg base 1 (E.cl "_law_divisor") ["_law_one", "_law_other"] f_law_divisor) (h_chinese : FnX P w E mg base 2 (E.cl "chinese") ["one", "other"] f_chinese) : FnOk P w E.K mg base (L2.CX P w) 3 (E.cl "law") fd ["_law_script"] (spF E 1 f_law) := by
  obtain ⟨fd_law_numbers, G_law_numbers, B_law_numbers, K_law_numbers⟩ := h_law_numbers.ex
  obtain ⟨fd_law_pick, G_law_pick, B_law_pick, K_law_pick⟩ := h_law_pick.ex
  obtain ⟨fd_law_divisor, G_law_divisor, B_law_divisor, K_law_divisor⟩ := h_law_divisor.ex
  obtain ⟨fd_chinese, G_chinese, B_chinese, K_chinese⟩ := h_chinese.ex
  refine fnOk_mk (m := 10) (k := 2) (p := p_law) F sc_law rfl rfl rfl (fun cdv A outer s H Ex hr => ?_)
  have c := bd_ctx (P := P) (w := w) (E := E) (mg := mg) (base := base) (N := ["_law_script", "_law_numbers_here", "_law_sizes", "_law_step", "_law_rests", "_law_number", "_law_divisor_here", "_law_found", "_law_k", "_law_size"]) (Ex := Ex) (H := H) (outer := outer) hr
  have nd : (["_law_script", "_law_numbers_here", "_law_sizes", "_law_step", "_law_rests", "_law_number", "_law_divisor_here", "_law_found", "_law_k", "_law_size"] : List Str).Nodup := sc_law.nd
  exact (xss_cons (xs_set ⟨fun _ => nd, fun _ => rfl, fun _ => (by first | exact Or.inl rfl | exact Or.inr rfl), fun _ => Or.inl rfl⟩ (xe_call c (fun _ => G_law_numbers) (by decide) (fun _ => rfl) (fun _ => T.g_law_numbers) K_law_numbers B_law_numbers .nil (fun _ => rfl) (xa_cons (xe_var fun _ => pv 0) (xa_cons xe_int xa_nil))))
    (xss_cons (xs_set ⟨fun _ => nd, fun _ => rfl, fun _ => (by first | exact Or.inl rfl | exact Or.inr rfl), fun _ => Or.inl rfl⟩ (XN.xe (xn_lc c (fun _ => nd) (xlc (own := ([("_law_k", 8)] : List (Str × Nat))) c (xi_range1 (fun _ => rfl) (fun _ => T.n_range) (xal_cons (XE.loose xe_int) xal_nil)) (xg_name fun _ => pg_name (i := 8) nd rfl (by first | exact Or.inl rfl | exact Or.inr rfl)) (by decide) xts_nil (xe_add (Ctx.blk c _) (XE.loose xe_int) (XE.loose (xe_call (Ctx.blk c _) (fun _ => G_law_pick) (by decide) (fun _ => rfl) (fun _ => T.g_law_pick) K_law_pick B_law_pick .nil (fun _ => rfl) (xa_cons (xe_var fun _ => pv 1) (xa_cons (xe_var fun _ => pv 8) (xa_cons xe_int xa_nil))))))) (fun _ => blkOk_by (N := ["_law_script", "_law_numbers_here", "_law_sizes", "_law_step", "_law_rests", "_law_number", "_law_divisor_here", "_law_found", "_law_k", "_law_size"]) (sc := defScope s_law) (by decide +kernel)))))
    (xss_cons (xs_if (zt_cmp (cmp_eq c) (XE.loose (xe_call c (fun _ => G_law_pick) (by decide) (fun _ => rfl) (fun _ => T.g_law_pick) K_law_pick B_law_pick .nil (fun _ => rfl) (xa_cons (xe_var fun _ => pv 1) (xa_cons xe_int (xa_cons xe_int xa_nil))))) (XE.loose xe_int) (nomark _))
    (xss_cons (xs_set ⟨fun _ => nd, fun _ => rfl, fun _ => (by first | exact Or.inl rfl | exact Or.inr rfl), fun _ => Or.inl rfl⟩ (xe_add c (XE.loose (xe_add c (XE.loose xe_int) (XE.loose (xe_mul c (XE.loose (xe_ix c (XE.loose (xe_var fun _ => pv 1)) (XE.loose xe_int))) (XE.loose (xe_pow c (XE.loose xe_int) (XE.loose xe_int))))))) (XE.loose (xe_mul c (XE.loose (xe_ix c (XE.loose (xe_var fun _ => pv 1)) (XE.loose xe_int))) (XE.loose (xe_pow c (XE.loose xe_int) (XE.loose xe_int)))))))
    (xss_one (xs_set ⟨fun _ => nd, fun _ => rfl, fun _ => (by first | exact Or.inl rfl | exact Or.inr rfl), fun _ => Or.inl rfl⟩ (XN.xe (xn_lc c (fun _ => nd) (xlc (own := ([("_law_size", 9)] : List (Str × Nat))) c (xi_seq c (xe_var fun _ => pv 2)) (xg_name fun _ => pg_name (i := 9) nd rfl (by first | exact Or.inl rfl | exact Or.inr rfl)) (by decide) xts_nil (xe_mul (Ctx.blk c _) (XE.loose (xe_var fun _ => pv 9)) (XE.loose (xe_var fun _ => pv 3)))) (fun _ => blkOk_by (N := ["_law_script", "_law_numbers_here", "_law_sizes", "_law_step", "_law_rests", "_law_number", "_law_divisor_here", "_law_found", "_law_k", "_law_size"]) (sc := defScope s_law) (by decide +kernel)))))))
    xss_nil)
    (xss_cons (xs_setLc c ⟨fun _ => nd, fun _ => rfl, fun _ => (by first | exact Or.inl rfl | exact Or.inr rfl), fun _ => Or.inl rfl⟩ (fun _ => rfl) (xlc (own := ([("_law_k", 8)] : List (Str × Nat))) c (xi_range1 (fun _ => rfl) (fun _ => T.n_range) (xal_cons (XE.loose xe_int) xal_nil)) (xg_name fun _ => pg_name (i := 8) nd rfl (by first | exact Or.inl rfl | exact Or.inr rfl)) (by decide) xts_nil (xe_mod (Ctx.blk c _) (XE.loose (ye_int (Ctx.blk c _) T.n_int (fun _ => rfl) (fun _ => rfl) (xal_cons (XE.loose (xe_add (Ctx.blk c _) (XE.loose (xe_add (Ctx.blk c _) (XE.loose (xe_mul (Ctx.blk c _) (XE.loose (xe_ix (Ctx.blk c _) (XE.loose (xe_var fun _ => pv 1)) (XE.loose (xe_add (Ctx.blk c _) (XE.loose xe_int) (XE.loose (xe_var fun _ => pv 8)))))) (XE.loose (xe_pow (Ctx.blk c _) (XE.loose xe_int) (XE.loose xe_int))))) (XE.loose (xe_mul (Ctx.blk c _) (XE.loose (xe_ix (Ctx.blk c _) (XE.loose (xe_var fun _ => pv 1)) (XE.loose (xe_add (Ctx.blk c _) (XE.loose xe_int) (XE.loose (xe_var fun _ => pv 8)))))) (XE.loose (xe_pow (Ctx.blk c _) (XE.loose xe_int) (XE.loose xe_int))))))) (XE.loose (xe_ix (Ctx.blk c _) (XE.loose (xe_var fun _ => pv 1)) (XE.loose (xe_add (Ctx.blk c _) (XE.loose xe_int) (XE.loose (xe_mul (Ctx.blk c _) (XE.loose xe_int) (XE.loose (xe_var fun _ => pv 8)))))))))) xal_nil))) (XE.loose (xe_ix (Ctx.blk c _) (XE.loose (xe_var fun _ => pv 2)) (XE.loose (xe_var fun _ => pv 8)))))) (fun _ => blkOk_by (N := ["_law_script", "_law_numbers_here", "_law_sizes", "_law_step", "_law_rests", "_law_number", "_law_divisor_here", "_law_found", "_law_k", "_law_size"]) (sc := defScope s_law) (by decide +kernel)) (fun _ => sw_true rfl rfl rfl (by decide +kernel)))
    (xss_cons (xs_if (zt_cmp (cmp_eq c) (XE.loose (xe_call c (fun _ => G_law_pick) (by decide) (fun _ => rfl) (fun _ => T.g_law_pick) K_law_pick B_law_pick .nil (fun _ => rfl) (xa_cons (xe_var fun _ => pv 1) (xa_cons xe_int (xa_cons xe_int xa_nil))))) (XE.loose xe_int) (nomark _))
    (xss_cons (xs_set ⟨fun _ => nd, fun _ => rfl, fun _ => (by first | exact Or.inl rfl | exact Or.inr rfl), fun _ => Or.inl rfl⟩ (xe_add c (XE.loose (xe_add c (XE.loose (xe_mul c (XE.loose (xe_ix c (XE.loose (xe_var fun _ => pv 1)) (XE.loose xe_int))) (XE.loose (xe_pow c (XE.loose xe_int) (XE.loose xe_int))))) (XE.loose (xe_mul c (XE.loose (xe_ix c (XE.loose (xe_var fun _ => pv 1)) (XE.loose xe_int))) (XE.loose (xe_pow c (XE.loose xe_int) (XE.loose xe_int))))))) (XE.loose (xe_ix c (XE.loose (xe_var fun _ => pv 1)) (XE.loose xe_int)))))
    (xss_one (xs_setLc c ⟨fun _ => nd, fun _ => rfl, fun _ => (by first | exact Or.inl rfl | exact Or.inr rfl), fun _ => Or.inl rfl⟩ (fun _ => rfl) (xlc (own := ([("_law_size", 9)] : List (Str × Nat))) c (xi_seq c (xe_var fun _ => pv 2)) (xg_name fun _ => pg_name (i := 9) nd rfl (by first | exact Or.inl rfl | exact Or.inr rfl)) (by decide) xts_nil (xe_mod (Ctx.blk c _) (XE.loose (ye_int (Ctx.blk c _) T.n_int (fun _ => rfl) (fun _ => rfl) (xal_cons (XE.loose (xe_var fun _ => pv 5)) xal_nil))) (XE.loose (xe_var fun _ => pv 9)))) (fun _ => blkOk_by (N := ["_law_script", "_law_numbers_here", "_law_sizes", "_law_step", "_law_rests", "_law_number", "_law_divisor_here", "_law_found", "_law_k", "_law_size"]) (sc := defScope s_law) (by decide +kernel)) (fun _ => sw_true rfl rfl rfl (by decide +kernel)))))
    xss_nil)
    (xss_cons (xs_set ⟨fun _ => nd, fun _ => rfl, fun _ => (by first | exact Or.inl rfl | exact Or.inr rfl), fun _ => Or.inl rfl⟩ (xe_call c (fun _ => G_law_divisor) (by decide) (fun _ => rfl) (fun _ => T.g_law_divisor) K_law_divisor B_law_divisor .nil (fun _ => rfl) (xa_cons (xe_ix c (XE.loose (xe_var fun _ => pv 2)) (XE.loose xe_int)) (xa_cons (xe_ix c (XE.loose (xe_var fun _ => pv 2)) (XE.loose xe_int)) xa_nil))))
    (xss_cons (xs_set ⟨fun _ => nd, fun _ => rfl, fun _ => (by first | exact Or.inl rfl | exact Or.inr rfl), fun _ => Or.inl rfl⟩ (xe_call c (fun _ => G_chinese) (by decide) (fun _ => rfl) (fun _ => T.g_chinese) K_chinese B_chinese .nil (fun _ => rfl) (xa_cons (xe_tup (xa_cons (xe_ix c (XE.loose (xe_var fun _ => pv 4)) (XE.loose xe_int)) (xa_cons (xe_ix c (XE.loose (xe_var fun _ => pv 2)) (XE.loose xe_int)) xa_nil))) (xa_cons (xe_tup (xa_cons (xe_ix c (XE.loose (xe_var fun _ => pv 4)) (XE.loose xe_int)) (xa_cons (xe_ix c (XE.loose (xe_var fun _ => pv 2)) (XE.loose xe_int)) xa_nil))) xa_nil))))
    (xss_cons (xs_if (zt_cmp (cmp_ne c) (XE.loose (xe_call c (fun _ => G_chinese) (by decide) (fun _ => rfl) (fun _ => T.g_chinese) K_chinese B_chinese .nil (fun _ => rfl) (xa_cons (xe_tup (xa_cons (xe_ix c (XE.loose (xe_var fun _ => pv 4)) (XE.loose xe_int)) (xa_cons (xe_ix c (XE.loose (xe_var fun _ => pv 2)) (XE.loose xe_int)) xa_nil))) (xa_cons (xe_tup (xa_cons (xe_ix c (XE.loose (xe_var fun _ => pv 4)) (XE.loose xe_int)) (xa_cons (xe_ix c (XE.loose (xe_var fun _ => pv 2)) (XE.loose xe_int)) xa_nil))) xa_nil)))) (XE.loose (xe_var fun _ => pv 7)) (nomark _))
    (xss_one (xs_ret xe_bl))
    xss_nil)
    (xss_cons (xs_if (zt_cmp (cmp_ne c) (XE.loose (xe_mod c (XE.loose (ye_int c T.n_int (fun _ => rfl) (fun _ => rfl) (xal_cons (XE.loose (xe_sub c (XE.loose (xe_ix c (XE.loose (xe_var fun _ => pv 4)) (XE.loose xe_int))) (XE.loose (xe_ix c (XE.loose (xe_var fun _ => pv 4)) (XE.loose xe_int))))) xal_nil))) (XE.loose (xe_var fun _ => pv 6)))) (XE.loose xe_int) (nomark _))
    (xss_one (xs_ret (ye_cmp (cmp_is c) (XE.loose (xe_var fun _ => pv 7)) (XE.loose xe_non) (nomark _))))
    xss_nil)
    (xss_cons (xs_if (xw_pt (xw_or (xt_not (zt_val (XE.loose (xe_isi c (fun _ => rfl) (fun _ => T.n_isinstance) (XE.loose (xe_var fun _ => pv 7)) (fun _ => pe_ty rfl T.n_tuple (by decide +kernel)))) c)) (xw_or (zt_cmp (cmp_ne c) (XE.loose (ye_len c T.n_len (fun _ => rfl) (fun _ => rfl) (xal_cons (XE.loose (xe_var fun _ => pv 7)) xal_nil))) (XE.loose xe_int) (nomark _)) (xw_or1 (zt_cmp (cmp_ne c) (XE.loose (xe_mul c (XE.loose (xe_ix c (XE.loose (xe_var fun _ => pv 7)) (XE.loose xe_int))) (XE.loose (xe_var fun _ => pv 6)))) (XE.loose (xe_mul c (XE.loose (xe_ix c (XE.loose (xe_var fun _ => pv 2)) (XE.loose xe_int))) (XE.loose (xe_ix c (XE.loose (xe_var fun _ => pv 2)) (XE.loose xe_int))))) (nomark _))))))
    (xss_one (xs_ret xe_bl))
    xss_nil)
    (xss_cons (xs_if (xw_pt (xw_or (xt_not (zt_chain (cmp_le c) (cmp_lt c) (XE.loose xe_int) (XE.loose (xe_ix c (XE.loose (xe_var fun _ => pv 7)) (XE.loose xe_int))) (XE.loose (xe_ix c (XE.loose (xe_var fun _ => pv 7)) (XE.loose xe_int))))) (xw_or1 (zt_val (XE.loose (xe_isi c (fun _ => rfl) (fun _ => T.n_isinstance) (XE.loose (xe_ix c (XE.loose (xe_var fun _ => pv 7)) (XE.loose xe_int))) (fun _ => pe_ty rfl T.n_bool (by decide +kernel)))) c))))
    (xss_one (xs_ret xe_bl))
    xss_nil)
    (xss_one (xs_ret (xe_and (ye_cmp (cmp_eq c) (XE.loose (xe_mod c (XE.loose (ye_int c T.n_int (fun _ => rfl) (fun _ => rfl) (xal_cons (XE.loose (xe_ix c (XE.loose (xe_var fun _ => pv 7)) (XE.loose xe_int))) xal_nil))) (XE.loose (xe_ix c (XE.loose (xe_var fun _ => pv 2)) (XE.loose xe_int))))) (XE.loose (xe_ix c (XE.loose (xe_var fun _ => pv 4)) (XE.loose xe_int))) (nomark _)) (xe_one (ye_cmp (cmp_eq c) (XE.loose (xe_mod c (XE.loose (ye_int c T.n_int (fun _ => rfl) (fun _ => rfl) (xal_cons (XE.loose (xe_ix c (XE.loose (xe_var fun _ => pv 7)) (XE.loose xe_int))) xal_nil))) (XE.loose (xe_ix c (XE.loose (xe_var fun _ => pv 2)) (XE.loose xe_int))))) (XE.loose (xe_ix c (XE.loose (xe_var fun _ => pv 4)) (XE.loose xe_int))) (nomark _)))))))))))))))))
end
/-! ### the top -/
def d_inverse : He.DefD := ⟨("inverse", none), "inverse", "inverse", defArgs s_inverse, defBody s_inverse, defScope s_inverse, [], []⟩
def d_chinese : He.DefD := ⟨("chinese", none), "chinese", "chinese", defArgs s_chinese, defBody s_chinese, defScope s_chinese, [], []⟩
def d_law_row : He.DefD := ⟨("_law_row", none), "_law_row", "_law_row", defArgs s_law_row, defBody s_law_row, defScope s_law_row, [], []⟩
def d_law_numbers : He.DefD := ⟨("_law_numbers", none), "_law_numbers", "_law_numbers", defArgs s_law_numbers, defBody s_law_numbers, defScope s_law_numbers, [], []⟩
def d_law_pick : He.DefD := ⟨("_law_pick", none), "_law_pick", "_law_pick", defArgs s_law_pick, defBody s_law_pick, defScope s_law_pick, [], []⟩
def d_law_divisor : He.DefD := ⟨("_law_divisor", none), "_law_divisor", "_law_divisor", defArgs s_law_divisor, defBody s_law_divisor, defScope s_law_divisor, [], []⟩
def d_law : He.DefD := ⟨("law", none), "law", "law", defArgs s_law, defBody s_law, defScope s_law, [], []⟩
def fn : List He.DefD := [d_inverse, d_chinese, d_law_row, d_law_numbers, d_law_pick, d_law_divisor, d_law]
def fa : List He.Fa := [.free "abs", .free "bool", .free "int", .free "isinstance", .free "len", .free "max", .free "range", .free "tuple", .glo "_law_divisor", .glo "_law_numbers", .glo "_law_pick", .glo "_law_row", .glo "chinese", .glo "inverse", .glo "law"]
def ex : List (PySem.W.Frag → Bool) := [bltB "gcd" "math.gcd"]
abbrev R : PySem.W.OpenRow := PySem.W.OpenLaw.row PySem.Challenge.rw_cushioned_k19_chinese
abbrev hk : PySem.W.Hook := hookE 6 fa ex fn
def ob (s : PySem.W.SharedT) : He.AlD := obsEG 6 fa ex fn (HandSHeadRun.getT s)
theorem ob_eq (s : PySem.W.SharedT) : ob s = hk.obs s.abs := obsEG_eq (HandSHeadRun.getT_eq s)
def loose0 : List Str := ["inverse", "chinese", "_law_row", "_law_numbers", "_law_pick", "_law_divisor"]
def looseA : List Str := loose0
theorem run (w : World) : HandSHeadRun.RunEqI R (PySem.W.view R.prog [0, 9]) hk ob 20000 looseA w := by
  unfold HandSHeadRun.RunEqI
  kernel_rfl
theorem facts {P : Program} {w : World} {K : PySem.W.Frag} {h : Heap} {mg : Str → Option Value} {f : Addr} (X : K.In h) (G : h.Ns mainGlobals mg) (hfa : mg ("law" : Str) = some (.ref f)) (c : SaysE fa ex fn K) :
    ∃ fd : FuncData, (∀ (s : Shared) (v : Value), BindsTo s fd ⟨[v], []⟩ [("_law_script", v)]) ∧ ∀ base : Heap, K.In base → base.Ns mainGlobals mg → FnOk P w K mg base (L2.CX P w) 3 f fd ["_law_script"] (spF (mkE K) 1 f_law) := by
  have T : Txt (mkE K) mg := ⟨He.free_ok X G (c.fact 0 (f := .free "abs") rfl), He.free_ok X G (c.fact 1 (f := .free "bool") rfl), He.free_ok X G (c.fact 2 (f := .free "int") rfl), He.free_ok X G (c.fact 3 (f := .free "isinstance") rfl), He.free_ok X G (c.fact 4 (f := .free "len") rfl), He.free_ok X G (c.fact 5 (f := .free "max") rfl), He.free_ok X G (c.fact 6 (f := .free "range") rfl), He.free_ok X G (c.fact 7 (f := .free "tuple") rfl), blt_ok (E := mkE K) X G (c.ext 0 (f := bltB "gcd" "math.gcd") rfl), He.glo_ok X G (c.fact 8 (f := .glo "_law_divisor") rfl), He.glo_ok X G (c.fact 9 (f := .glo "_law_numbers") rfl), He.glo_ok X G (c.fact 10 (f := .glo "_law_pick") rfl), He.glo_ok X G (c.fact 11 (f := .glo "_law_row") rfl), He.glo_ok X G (c.fact 12 (f := .glo "chinese") rfl), He.glo_ok X G (c.fact 13 (f := .glo "inverse") rfl)⟩
  have e := hfa.symm.trans (He.glo_ok X G (c.fact 14 (f := .glo "law") rfl))
  cases e
  obtain ⟨fd0, F0⟩ := c.def_ 6 (d := d_law) rfl
  have b := FunD.bindsA (ps := ["_law_script"]) F0 fun _ _ _ _ _ _ us hl => match us, hl with | [_], _ => rfl
  refine ⟨fd0, fun s v => b s [v] rfl, fun base hK hn => ?_⟩
  have h_inverse := ok_inverse (P := P) (w := w) (base := base) T (c.def_ 0 (d := d_inverse) rfl)
  have h_chinese := ok_chinese (P := P) (w := w) (base := base) T (c.def_ 1 (d := d_chinese) rfl) h_inverse
  have h_law_row := ok_law_row (P := P) (w := w) (base := base) T (c.def_ 2 (d := d_law_row) rfl)
  have h_law_numbers := ok_law_numbers (P := P) (w := w) (base := base) T (c.def_ 3 (d := d_law_numbers) rfl) h_law_row
  have h_law_pick := ok_law_pick (P := P) (w := w) (base := base) T (c.def_ 4 (d := d_law_pick) rfl)
  have h_law_divisor := ok_law_divisor (P := P) (w := w) (base := base) T (c.def_ 5 (d := d_law_divisor) rfl)
  exact ok_law1 (P := P) (w := w) (base := base) T F0 h_law_numbers h_law_pick h_law_divisor h_chinese
end DL
theorem DL.holds_of (hl : ∀ ns : List Int, ns.length ≤ 63 → DL.f_law [.kl (ns.map .int)] = .ok (.bl true)) : PySem.Challenge.rw_cushioned_k19_chinese.Holds := by
  open PySem PySem.W PySem.Calls PyProof.Rows in
  w_on; o_law
  refine HandSHeadRun.head_imp (r := OpenLaw.row PySem.Challenge.rw_cushioned_k19_chinese) (q := view (OpenLaw.row PySem.Challenge.rw_cushioned_k19_chinese).prog [0, 9]) (H := DL.hk) (ob := DL.ob) (M := 20000) (loose := DL.looseA) (d := HandSHeadRun.topDef (OpenLaw.row PySem.Challenge.rw_cushioned_k19_chinese).prog 9) (kwd := []) DL.ob_eq
    DL.run (by kernel_rfl) (by kernel_rfl) (by kernel_rfl) (by rfl) (by first | assumption | decide +kernel) (by decide +kernel) ⟨rfl, rfl, rfl, rfl, rfl, by decide +kernel⟩ ?hw ?hc
  case hw => w_witness2
  case hc =>
    refine L2.walk_ofE (l := PySem.Challenge.rw_cushioned_k19_chinese) (n := 63) (k := 3) (x := "_law_script") (CX := L2.CX0) rfl (by decide) (by kernel_rfl) ⟨rfl, by decide, by decide⟩ ?F (fun _ _ _ _ z => z)
    intro w mg fa h Y G hmg0
    obtain ⟨K, KX, c⟩ := Y
    have hmg : mg ("law" : PySem.Str) = some (.ref fa) := by
      have e : (HandSHeadRun.topDef (OpenLaw.row PySem.Challenge.rw_cushioned_k19_chinese).prog 9).name = ("law" : PySem.Str) := by kernel_rfl
      rw [← e]
      exact hmg0
    obtain ⟨fd, hb, hF⟩ := DL.facts (P := (PySem.Challenge.rw_cushioned_k19_chinese).prog) (w := w) KX G hmg c
    exact ⟨K, fd, fun vs H Q _ => DL.spF (DL.mkE K) 1 DL.f_law vs H Q fun _ _ _ => False, KX, hb, fun H a ns hl' _ hS => DL.law_sp hl H a ns hl' hS, fun base hK hn => DL.fnOk_nox (hF base hK hn)⟩
end

theorem PySem.Challenge.cw_cushioned_k19_chinese_holds : PySem.Challenge.rw_cushioned_k19_chinese.Holds := by
  exact (DL.holds_of DL.law_k19)
