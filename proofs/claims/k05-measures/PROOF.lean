import PyProof.Rows.All
import Wide.All
import OpenK.AllK
import Wide.FinOn
import HandS.ForMost
import HandS.Evl
import HandS.Walk
import HandS.IsInst
import HandS.Conv
import HandS.Zip
import HandS.SortInts
import HandS.SortRule
import HandS.Strs
import HandS.Style
import HandS.SetFor
import HandS.ExcValue
import HandS.ExcIs
import HandS.ExcOwn
import HandS.ExcInit
import HandS.WordsExc
import KE.KExcIs
import HandS.ClsMeth
import HandS.ExcField
import KE.DataCmp
import KE.SortData
import HandS.TupAny
import HandS.Rev
import PySem.Challenge.RW_gongpath_k05_measures
set_option Elab.async false
set_option linter.all false
set_option maxRecDepth 100000
set_option maxHeartbeats 4000000
namespace Zk
/-- a game, by place -/
structure Gm where
  own : Int → Int
  num : Int → Int
  ways : Int → List Int

inductive Pth (R : Int → Int → Prop) : Int → Int → Prop
  | one {a b : Int} : R a b → Pth R a b
  | cons {a b c : Int} : R a b → Pth R b c → Pth R a c
section
variable {R R' : Int → Int → Prop} {a b c : Int}
theorem Pth.mono (h : Pth R a b) (f : ∀ x y, R x y → R' x y) : Pth R' a b := by
  induction h with
  | one r => exact .one (f _ _ r)
  | cons r _ ih => exact .cons (f _ _ r) ih
theorem Pth.trans (h : Pth R a b) (k : Pth R b c) : Pth R a c := by
  induction h with
  | one r => exact .cons r k
  | cons r _ ih => exact .cons r (ih k)
theorem Pth.fwd {I : Int → Prop} (h : Pth R a b) (ha : I a) (f : ∀ x y, I x → R x y → I y) : I b ∧ Pth (fun x y => R x y ∧ I x ∧ I y) a b := by
  induction h with
  | one r => exact ⟨f _ _ ha r, .one ⟨r, ha, f _ _ ha r⟩⟩
  | cons r _ ih =>
    have h2 := f _ _ ha r
    exact ⟨(ih h2).1, .cons ⟨r, ha, h2⟩ (ih h2).2⟩
theorem Pth.bwd {I : Int → Prop} (h : Pth R a b) (hb : I b) (f : ∀ x y, I y → R x y → I x) : I a ∧ Pth (fun x y => R x y ∧ I x ∧ I y) a b := by
  induction h with
  | one r => exact ⟨f _ _ hb r, .one ⟨r, f _ _ hb r, hb⟩⟩
  | cons r _ ih =>
    have h2 := (ih hb).1
    exact ⟨f _ _ h2 r, .cons ⟨r, f _ _ h2 r, h2⟩ (ih hb).2⟩
/-- a number that falls strictly -/
theorem Pth.falls {μ : Int → Int} (h : Pth R a b) (f : ∀ x y, R x y → μ y < μ x) : μ b < μ a := by
  induction h with
  | one r => exact f _ _ r
  | cons r _ ih => exact Int.lt_trans ih (f _ _ r)
theorem Pth.head (h : Pth R a b) : ∃ c, R a c := by
  cases h with
  | one r => exact ⟨_, r⟩
  | cons r _ => exact ⟨_, r⟩
end
section
variable (g : Gm) (W : Int → Prop) (P : Int) (S : Int → Prop) (st : Int → Option Int)
/-- a way that is left by P's steps -/
def Edge (a b : Int) : Prop := (g.own a = P ∧ st a = some b) ∨ (g.own a ≠ P ∧ b ∈ g.ways a ∧ W b)
/-- .. within S, by numbers up to m -/
def Rel (m : Int) (a b : Int) : Prop := S a ∧ S b ∧ g.num a ≤ m ∧ g.num b ≤ m ∧ Edge g W P st a b
/-- P's steps are without a flaw for S, within W -/
structure Flw : Prop where
  sub : ∀ p, S p → W p
  mine : ∀ p, S p → g.own p = P → ∃ q, st p = some q ∧ q ∈ g.ways p ∧ S q
  his : ∀ p, S p → g.own p ≠ P → ∀ q, q ∈ g.ways p → W q → S q
  ring : ∀ p, S p → g.num p % 2 ≠ P → ¬ Pth (Rel g W P S st (g.num p)) p p
/-- places drawn to T by P: rk their rounds, st P's steps -/
structure Att (T : Int → Prop) (rk : Int → Option Int) (pu : Int → Option Int) : Prop where
  zero : ∀ p, rk p = some 0 ↔ T p
  sub : ∀ p r, rk p = some r → W p ∧ 0 ≤ r
  mine : ∀ p r, rk p = some r → 0 < r → g.own p = P → ∃ q, pu p = some q ∧ q ∈ g.ways p ∧ W q ∧ ∃ r', rk q = some r' ∧ r' < r
  his : ∀ p r, rk p = some r → 0 < r → g.own p ≠ P → ∀ q, q ∈ g.ways p → W q → ∃ r', rk q = some r' ∧ r' < r
  outm : ∀ p, W p → rk p = none → g.own p = P → ∀ q, q ∈ g.ways p → W q → rk q = none
  outh : ∀ p, W p → rk p = none → g.own p ≠ P → ∃ q, q ∈ g.ways p ∧ W q ∧ rk q = none
  pus : ∀ p, pu p = none ∨ (g.own p = P ∧ ∃ r, rk p = some r ∧ 0 < r)
end
/-- each place has a way within -/
def Tot (g : Gm) (W : Int → Prop) : Prop := ∀ p, W p → ∃ q, q ∈ g.ways p ∧ W q
section
variable {g : Gm} {W : Int → Prop} {P : Int} {T : Int → Prop} {rk pu : Int → Option Int}
theorem Att.tot (a : Att g W P T rk pu) (t : Tot g W) : Tot g (fun p => W p ∧ rk p = none) := by
  intro p ⟨hp, hr⟩
  by_cases h : g.own p = P
  · obtain ⟨q, hq, hw⟩ := t p hp
    exact ⟨q, hq, hw, a.outm p hp hr h q hq hw⟩
  · obtain ⟨q, hq, hw, hn⟩ := a.outh p hp hr h
    exact ⟨q, hq, hw, hn⟩
/-- what is drawn, with the steps: from each such place but T all ways go to less -/
theorem Att.falls (a : Att g W P T rk pu) {st : Int → Option Int} (hst : ∀ p q, g.own p = P → pu p = some q → st p = some q) {x y : Int} {r : Int} (hr : rk x = some r) (h0 : 0 < r) (e : Edge g W P st x y) : ∃ r', rk y = some r' ∧ r' < r := by
  rcases e with ⟨ho, hs⟩ | ⟨ho, hw, hW⟩
  · obtain ⟨q, hq, hqw, hqW, r', h1, h2⟩ := a.mine x r hr h0 ho
    have z := hst x q ho hq
    rw [hs] at z
    cases z
    exact ⟨r', h1, h2⟩
  · exact a.his x r hr h0 ho y hw hW
theorem caseAll {top : Int} {st led : Int → Option Int} (a : Att g W P T rk pu) (hT : ∀ p, T p → g.num p = top) (hT2 : ∀ p, W p → g.num p = top → T p) (htop : ∀ p, W p → g.num p ≤ top) (par : top % 2 = P)
    (sub : Flw g (fun p => W p ∧ rk p = none) P (fun p => W p ∧ rk p = none) st)
    (led1 : ∀ p q, W p → g.own p = P → pu p = some q → led p = some q) (led2 : ∀ p q, W p → g.own p = P → rk p = none → st p = some q → led p = some q)
    (led3 : ∀ p, W p → g.own p = P → rk p = some 0 → ∃ q, led p = some q ∧ q ∈ g.ways p ∧ W q) : Flw g W P W led := by
  refine ⟨fun _ h => h, fun p hp ho => ?_, fun p hp ho q _ hq => hq, fun p hp hodd hc => ?_⟩
  · cases hr : rk p with
    | none =>
      obtain ⟨q, h1, h2, h3⟩ := sub.mine p ⟨hp, hr⟩ ho
      exact ⟨q, led2 p q hp ho hr h1, h2, h3.1⟩
    | some r =>
      have h0 := (a.sub p r hr).2
      by_cases hz : r = 0
      · subst hz
        exact led3 p hp ho hr
      · obtain ⟨q, h1, h2, h3, _⟩ := a.mine p r hr (by omega) ho
        exact ⟨q, led1 p q hp ho h1, h2, h3⟩
  · -- p's number is less than top
    have hlt : g.num p < top := by
      have h1 := htop p hp
      have h2 : g.num p ≠ top := fun e => hodd (by rw [e]; exact par)
      omega
    -- from a drawn place one comes to lesser drawn ones only
    have down : ∀ x y r, rk x = some r → Rel g W P W led (g.num p) x y → ∃ r', rk y = some r' ∧ r' < r := by
      intro x y r hr ⟨hx, hy, n1, n2, e⟩
      have h0 := (a.sub x r hr).2
      have hz : r ≠ 0 := fun z => by
        subst z
        have := hT x ((a.zero x).mp hr)
        omega
      rcases e with ⟨ho, hs⟩ | ⟨ho, hw, hW⟩
      · obtain ⟨q, hq, hqw, hqW, r', h1, h2⟩ := a.mine x r hr (by omega) ho
        have z := led1 x q hx ho hq
        rw [hs] at z
        cases z
        exact ⟨r', h1, h2⟩
      · exact a.his x r hr (by omega) ho y hw hW
    cases hr : rk p with
    | some r =>
      -- p itself is drawn
      have f := hc.fwd (I := fun x => ∃ r', rk x = some r') ⟨r, hr⟩ (fun x y ⟨r', h⟩ e => by
        obtain ⟨r2, h2, _⟩ := down x y r' h e
        exact ⟨r2, h2⟩)
      have g2 := f.2.falls (μ := fun x => (rk x).getD 0) (fun x y ⟨e, ⟨r1, h1⟩, ⟨r2, h2⟩⟩ => by
        obtain ⟨r3, h3, h4⟩ := down x y r1 h1 e
        rw [h1, h3]
        exact h4)
      exact absurd g2 (Int.lt_irrefl _)
    | none =>
      have f := hc.bwd (I := fun x => rk x = none) hr (fun x y hy e => by
        cases hx : rk x with
        | none => rfl
        | some r =>
          obtain ⟨r', h1, _⟩ := down x y r hx e
          rw [hy] at h1
          cases h1)
      refine sub.ring p ⟨hp, hr⟩ hodd (f.2.mono fun x y ⟨⟨hx, hy, n1, n2, e⟩, ix, iy⟩ => ⟨⟨hx, ix⟩, ⟨hy, iy⟩, n1, n2, ?_⟩)
      rcases e with ⟨ho, hs⟩ | ⟨ho, hw, hW⟩
      · obtain ⟨q, h1, _, _⟩ := sub.mine x ⟨hx, ix⟩ ho
        have z := led2 x q hx ho ix h1
        rw [hs] at z
        cases z
        exact .inl ⟨ho, h1⟩
      · exact .inr ⟨ho, hw, hW, iy⟩
/-- the second recursion: what is left behind lost's drawn places; the first player's places -/
theorem caseKept {O : Int} {S : Int → Prop} {st led : Int → Option Int} (hO : O ≠ P) (hown : ∀ p, W p → g.own p = P ∨ g.own p = O) (a : Att g W O T rk pu)
    (sub : Flw g (fun p => W p ∧ rk p = none) P S st) (hled : ∀ p q, S p → g.own p = P → st p = some q → led p = some q) : Flw g W P S led := by
  have eqL : ∀ x, S x → g.own x = P → led x = st x := fun x hx ho => by
    obtain ⟨q, h1, _, _⟩ := sub.mine x hx ho
    rw [h1, hled x q hx ho h1]
  refine ⟨fun p hp => (sub.sub p hp).1, fun p hp ho => ?_, fun p hp ho q hq hW => ?_, fun p hp hodd hc => ?_⟩
  · obtain ⟨q, h1, h2, h3⟩ := sub.mine p hp ho
    exact ⟨q, hled p q hp ho h1, h2, h3⟩
  · obtain ⟨hw, hr⟩ := sub.sub p hp
    have ho' : g.own p = O := (hown p hw).resolve_left ho
    exact sub.his p hp ho q hq ⟨hW, a.outm p hw hr ho' q hq hW⟩
  · refine sub.ring p hp hodd (hc.mono fun x y ⟨hx, hy, n1, n2, e⟩ => ⟨hx, hy, n1, n2, ?_⟩)
    rcases e with ⟨ho, hs⟩ | ⟨ho, hw, hW⟩
    · exact .inl ⟨ho, by rw [← eqL x hx ho]; exact hs⟩
    · exact .inr ⟨ho, hw, sub.sub y hy⟩
/-- .. and the other one's: drawn ones (the first recursion's lost among them), and what it wins of the rest -/
theorem caseLost {O : Int} {V L S : Int → Prop} {rk1 pu1 : Int → Option Int} {T1 : Int → Prop} {st1 st2 led : Int → Option Int} (hO : O ≠ P) (hown : ∀ p, W p → g.own p = P ∨ g.own p = O)
    (a1 : Att g W P T1 rk1 pu1) (f1 : Flw g (fun p => W p ∧ rk1 p = none) O L st1)
    (a : Att g W O L rk pu) (f2 : Flw g (fun p => W p ∧ rk p = none) O S st2)
    (led1 : ∀ p q, g.own p = O → pu p = some q → led p = some q) (led2 : ∀ p q, g.own p = O → L p → st1 p = some q → led p = some q) (led3 : ∀ p q, g.own p = O → S p → st2 p = some q → led p = some q) :
    Flw g W O (fun p => S p ∨ ∃ r, rk p = some r) led := by
  -- lost is closed within W
  have lostC : ∀ x y, L x → Edge g W O led x y → L y ∧ Edge g (fun p => W p ∧ rk1 p = none) O st1 x y := by
    intro x y hx e
    obtain ⟨hw, hr⟩ := f1.sub x hx
    rcases e with ⟨ho, hs⟩ | ⟨ho, hw2, hW⟩
    · obtain ⟨q, h1, h2, h3⟩ := f1.mine x hx ho
      have z := led2 x q ho hx h1
      rw [hs] at z
      cases z
      exact ⟨h3, .inl ⟨ho, h1⟩⟩
    · have ho' : g.own x = P := (hown x hw).resolve_right ho
      have hn := a1.outm x hw hr ho' y hw2 hW
      exact ⟨f1.his x hx ho y hw2 ⟨hW, hn⟩, .inr ⟨ho, hw2, hW, hn⟩⟩
  -- drawn places lead to drawn ones, not greater
  have down : ∀ x y r, rk x = some r → Edge g W O led x y → ∃ r', rk y = some r' ∧ r' ≤ r ∧ (r ≠ 0 → r' < r) := by
    intro x y r hr e
    have h0 := (a.sub x r hr).2
    by_cases hz : r = 0
    · subst hz
      have h1 := (lostC x y ((a.zero x).mp hr) e).1
      exact ⟨0, (a.zero y).mpr h1, Int.le_refl _, fun z => absurd rfl z⟩
    · obtain ⟨r', h1, h2⟩ := a.falls led1 hr (by omega) e
      exact ⟨r', h1, by omega, fun _ => h2⟩
  refine ⟨fun p hp => ?_, fun p hp ho => ?_, fun p hp ho q hq hW => ?_, fun p hp hodd hc => ?_⟩
  · rcases hp with h | ⟨r, h⟩
    · exact (f2.sub p h).1
    · exact (a.sub p r h).1
  · rcases hp with h | ⟨r, h⟩
    · obtain ⟨q, h1, h2, h3⟩ := f2.mine p h ho
      exact ⟨q, led3 p q ho h h1, h2, .inl h3⟩
    · have h0 := (a.sub p r h).2
      by_cases hz : r = 0
      · subst hz
        have hl := (a.zero p).mp h
        obtain ⟨q, h1, h2, h3⟩ := f1.mine p hl ho
        exact ⟨q, led2 p q ho hl h1, h2, .inr ⟨0, (a.zero q).mpr h3⟩⟩
      · obtain ⟨q, h1, h2, _, r', h3, _⟩ := a.mine p r h (by omega) ho
        exact ⟨q, led1 p q ho h1, h2, .inr ⟨r', h3⟩⟩
  · rcases hp with h | ⟨r, h⟩
    · cases hr : rk q with
      | some r => exact .inr ⟨r, rfl⟩
      | none => exact .inl (f2.his p h ho q hq ⟨hW, hr⟩)
    · obtain ⟨r', h1, _⟩ := down p q r h (.inr ⟨ho, hq, hW⟩)
      exact .inr ⟨r', h1⟩
  · cases hr : rk p with
    | some r =>
      have f := hc.fwd (I := fun x => ∃ r', rk x = some r' ∧ r' ≤ r) ⟨r, hr, Int.le_refl _⟩ (fun x y ⟨r', h, h2⟩ e => by
        obtain ⟨r2, h3, h4, _⟩ := down x y r' h e.2.2.2.2
        exact ⟨r2, h3, by omega⟩)
      -- all of the same rank as p
      have b := f.2.bwd (I := fun x => ∃ r', rk x = some r' ∧ r ≤ r') ⟨r, hr, Int.le_refl _⟩ (fun x y ⟨r', h, h2⟩ ⟨e, ⟨r1, h3, h4⟩, _⟩ => by
        obtain ⟨r2, h5, h6, _⟩ := down x y r1 h3 e.2.2.2.2
        rw [h] at h5
        cases h5
        exact ⟨r1, h3, by omega⟩)
      by_cases hz : r = 0
      · subst hz
        refine f1.ring p ((a.zero p).mp hr) hodd (b.2.mono fun x y ⟨⟨⟨hx, hy, n1, n2, e⟩, ⟨r1, h1, h2⟩, ⟨r2, h3, h4⟩⟩, ⟨r3, h5, h6⟩, ⟨r4, h7, h8⟩⟩ => ?_)
        rw [h1] at h5
        cases h5
        rw [h3] at h7
        cases h7
        have z1 : r1 = 0 := by omega
        have z2 : r2 = 0 := by omega
        subst z1 z2
        have lx := (a.zero x).mp h1
        have l := lostC x y lx e
        exact ⟨lx, l.1, n1, n2, l.2⟩
      · obtain ⟨c, ⟨⟨⟨_, _, _, _, e⟩, ⟨r1, h1, h2⟩, ⟨r2, h3, h4⟩⟩, ⟨r3, h5, h6⟩, ⟨r4, h7, h8⟩⟩⟩ := b.2.head
        rw [hr] at h1
        cases h1
        obtain ⟨r5, h9, h10, h11⟩ := down p c r hr e
        rw [h3] at h9 h7
        cases h9
        cases h7
        have := h11 hz
        omega
    | none =>
      have f := hc.bwd (I := fun x => rk x = none) hr (fun x y hy e => by
        cases hx : rk x with
        | none => rfl
        | some r =>
          obtain ⟨r', h1, _⟩ := down x y r hx e.2.2.2.2
          rw [hy] at h1
          cases h1)
      have inS : ∀ x, (S x ∨ ∃ r, rk x = some r) → rk x = none → S x := fun x h hn => by
        rcases h with h | ⟨r, h⟩
        · exact h
        · rw [hn] at h
          cases h
      have hS := inS p hp hr
      refine f2.ring p hS hodd (f.2.mono fun x y ⟨⟨hx, hy, n1, n2, e⟩, ix, iy⟩ => ⟨inS x hx ix, inS y hy iy, n1, n2, ?_⟩)
      rcases e with ⟨ho, hs⟩ | ⟨ho, hw, hW⟩
      · obtain ⟨q, h1, _, _⟩ := f2.mine x (inS x hx ix) ho
        have z := led3 x q ho (inS x hx ix) h1
        rw [hs] at z
        cases z
        exact .inl ⟨ho, h1⟩
      · exact .inr ⟨ho, hw, hW, iy⟩
end
end Zk
namespace Zk
abbrev AL := List (Int × Int)
def aget (d : AL) (k : Int) : Option Int := (d.find? fun kv => decide (kv.1 = k)).map (·.2)
def aput (d : AL) (k v : Int) : AL := if (d.any fun kv => decide (kv.1 = k)) = true then d.map (fun kv => if kv.1 = k then (kv.1, v) else kv) else d ++ [(k, v)]
theorem aget_nil {k : Int} : aget [] k = none := rfl
theorem aget_cons (p : Int × Int) (d : AL) (k : Int) : aget (p :: d) k = if p.1 = k then some p.2 else aget d k := by
  unfold aget
  rw [List.find?_cons]
  by_cases e : p.1 = k
  · simp [e]
  · simp [e]
theorem aget_any (k : Int) : ∀ d : AL, (d.any fun kv => decide (kv.1 = k)) = (aget d k).isSome
  | [] => rfl
  | p :: r => by
    rw [List.any_cons, aget_cons, aget_any k r]
    by_cases e : p.1 = k <;> simp [e]
theorem aget_map (k j v : Int) : ∀ d : AL, aget (d.map fun kv => if kv.1 = k then (kv.1, v) else kv) j = (aget d j).map fun x => if j = k then v else x
  | [] => rfl
  | p :: r => by
    rw [List.map_cons, aget_cons, aget_cons, aget_map k j v r]
    by_cases e : p.1 = k
    · rw [if_pos e]
      by_cases h : p.1 = j
      · rw [if_pos h, if_pos h]
        have : j = k := by omega
        simp [this]
      · rw [if_neg h, if_neg h]
    · rw [if_neg e]
      by_cases h : p.1 = j
      · rw [if_pos h, if_pos h]
        have : ¬ j = k := by omega
        simp [this]
      · rw [if_neg h, if_neg h]
theorem aget_snoc (k j v : Int) : ∀ d : AL, aget d k = none → aget (d ++ [(k, v)]) j = if j = k then some v else aget d j
  | [], _ => by
    rw [List.nil_append, aget_cons]
    by_cases e : j = k
    · simp [e]
    · have : ¬ k = j := fun h => e h.symm
      simp [e, this, aget_nil]
  | p :: r, h => by
    rw [aget_cons] at h
    by_cases e : p.1 = k
    · rw [if_pos e] at h
      cases h
    · rw [if_neg e] at h
      rw [List.cons_append, aget_cons, aget_cons, aget_snoc k j v r h]
      by_cases q : p.1 = j
      · have : ¬ j = k := by omega
        simp [q, this]
      · simp [q]
theorem aget_put (d : AL) (k j v : Int) : aget (aput d k v) j = if j = k then some v else aget d j := by
  unfold aput
  rw [aget_any]
  cases h : aget d k with
  | none =>
    simp only [Option.isSome_none, Bool.false_eq_true, if_false]
    exact aget_snoc k j v d h
  | some x =>
    simp only [Option.isSome_some, if_true]
    rw [aget_map]
    by_cases e : j = k
    · rw [if_pos e, e, h]
      simp
    · rw [if_neg e]
      cases aget d j <;> simp [e]
theorem aput_len (d : AL) (k v : Int) : (aput d k v).length ≤ d.length + 1 := by
  unfold aput
  split
  · rw [List.length_map]; omega
  · rw [List.length_append]; exact Nat.le_refl _
theorem aput_len_new {d : AL} {k : Int} (v : Int) (h : aget d k = none) : (aput d k v).length = d.length + 1 := by
  unfold aput
  rw [aget_any, h]
  simp
theorem aput_len_old {d : AL} {k : Int} (v : Int) (h : aget d k ≠ none) : (aput d k v).length = d.length := by
  unfold aput
  rw [aget_any]
  cases e : aget d k with
  | none => exact absurd e h
  | some x => simp
theorem aget_key {d : AL} {k : Int} : k ∈ d.map (·.1) ↔ aget d k ≠ none := by
  induction d with
  | nil => simp [aget_nil]
  | cons p r ih =>
    rw [aget_cons, List.map_cons, List.mem_cons, ih]
    by_cases e : p.1 = k
    · simp [e]
    · have : ¬ k = p.1 := fun h => e h.symm
      simp [e, this]

/-! ### drawn_in -/
structure DS where
  ranks : AL
  steps : AL
  fresh : Bool
section
variable (G : Gm) (W : List Int) (P : Int)
def waysIn (p : Int) : List Int := (G.ways p).filter fun q => decide (q ∈ W)
def nearOf (ranks : AL) (turn p : Int) : List Int := (waysIn G W p).filter fun q => decide ((aget ranks q).getD turn < turn)
def dturn (turn : Int) (s : DS) (p : Int) : DS :=
  if G.own p = P ∧ nearOf G W s.ranks turn p ≠ [] then ⟨aput s.ranks p turn, aput s.steps p ((nearOf G W s.ranks turn p).headD 0), true⟩
  else if G.own p ≠ P ∧ (nearOf G W s.ranks turn p).length = (waysIn G W p).length then ⟨aput s.ranks p turn, s.steps, true⟩
  else s
def unranked (ranks : AL) : List Int := W.filter fun p => decide (aget ranks p = none)
def dround (turn : Int) (s : DS) : DS := (unranked W s.ranks).foldl (dturn G W P turn) ⟨s.ranks, s.steps, false⟩
def dloop : Nat → Int → DS → DS
  | 0, _, s => s
  | n + 1, t, s => if s.fresh = true then dloop n (t + 1) (dround G W P (t + 1) s) else s
def dstart (goals : List Int) : DS := ⟨goals.foldl (fun d p => aput d p 0) [], [], true⟩
def drawnS (goals : List Int) : DS := dloop G W P (W.length + 1) 0 (dstart goals)
end
section
variable {G : Gm} {W : List Int} {P : Int}
theorem mem_near {ranks : AL} {turn p q : Int} : q ∈ nearOf G W ranks turn p ↔ q ∈ G.ways p ∧ q ∈ W ∧ ∃ r, aget ranks q = some r ∧ r < turn := by
  unfold nearOf waysIn
  simp only [List.mem_filter, decide_eq_true_eq]
  cases h : aget ranks q with
  | none => simp
  | some r => simp [and_assoc]
theorem near_all {ranks : AL} {turn p : Int} (h : (nearOf G W ranks turn p).length = (waysIn G W p).length) : ∀ q, q ∈ G.ways p → q ∈ W → ∃ r, aget ranks q = some r ∧ r < turn := by
  intro q hq hw
  have m : q ∈ waysIn G W p := List.mem_filter.mpr ⟨hq, decide_eq_true hw⟩
  have := List.length_filter_eq_length_iff.mp h q m
  exact (mem_near.mp (List.mem_filter.mpr ⟨m, this⟩)).2.2
theorem near_some {ranks : AL} {turn p : Int} (h : (nearOf G W ranks turn p).length ≠ (waysIn G W p).length) : ∃ q, q ∈ G.ways p ∧ q ∈ W ∧ ¬ ∃ r, aget ranks q = some r ∧ r < turn := by
  have h2 : ¬ ∀ q ∈ waysIn G W p, decide ((aget ranks q).getD turn < turn) = true := fun a => h (List.length_filter_eq_length_iff.mpr a)
  have h3 : ∃ q, q ∈ waysIn G W p ∧ ¬ decide ((aget ranks q).getD turn < turn) = true := Classical.byContradiction fun n => h2 fun q hq => Classical.byContradiction fun z => n ⟨q, hq, z⟩
  obtain ⟨q, hq, z⟩ := h3
  have m := List.mem_filter.mp hq
  refine ⟨q, m.1, of_decide_eq_true m.2, fun ⟨r, h1, h2⟩ => z ?_⟩
  rw [h1]
  exact decide_eq_true h2
theorem head_mem {l : List Int} (h : l ≠ []) : l.headD 0 ∈ l := by
  cases l with
  | nil => exact absurd rfl h
  | cons a r => simp
/-- how a turn goes -/
theorem dturn_cases (G : Gm) (W : List Int) (P turn : Int) (s : DS) (p : Int) :
    (G.own p = P ∧ (∃ q, q ∈ nearOf G W s.ranks turn p ∧ dturn G W P turn s p = ⟨aput s.ranks p turn, aput s.steps p q, true⟩)) ∨
    (G.own p ≠ P ∧ (∀ q, q ∈ G.ways p → q ∈ W → ∃ r, aget s.ranks q = some r ∧ r < turn) ∧ dturn G W P turn s p = ⟨aput s.ranks p turn, s.steps, true⟩) ∨
    (dturn G W P turn s p = s ∧ (G.own p = P → nearOf G W s.ranks turn p = []) ∧ (G.own p ≠ P → ∃ q, q ∈ G.ways p ∧ q ∈ W ∧ ¬ ∃ r, aget s.ranks q = some r ∧ r < turn)) := by
  unfold dturn
  by_cases h : G.own p = P ∧ nearOf G W s.ranks turn p ≠ []
  · rw [if_pos h]
    exact .inl ⟨h.1, _, head_mem h.2, rfl⟩
  · rw [if_neg h]
    by_cases k : G.own p ≠ P ∧ (nearOf G W s.ranks turn p).length = (waysIn G W p).length
    · rw [if_pos k]
      exact .inr (.inl ⟨k.1, near_all k.2, rfl⟩)
    · rw [if_neg k]
      refine .inr (.inr ⟨rfl, fun e => ?_, fun e => near_some fun z => k ⟨e, z⟩⟩)
      exact Classical.byContradiction fun z => h ⟨e, z⟩
theorem dturn_fresh (turn : Int) (s : DS) (p : Int) (h : s.fresh = true) : (dturn G W P turn s p).fresh = true := by
  rcases dturn_cases G W P turn s p with ⟨_, q, _, e⟩ | ⟨_, _, e⟩ | ⟨e, _⟩ <;> rw [e]
  exact h
theorem dfold_fresh (turn : Int) : ∀ (l : List Int) (s : DS), s.fresh = true → (l.foldl (dturn G W P turn) s).fresh = true
  | [], _, h => h
  | p :: l, s, h => dfold_fresh turn l _ (dturn_fresh turn s p h)
/-- nothing new: nothing changed, and why -/
theorem dfold_same (turn : Int) : ∀ (l : List Int) (s : DS), (l.foldl (dturn G W P turn) s).fresh = false → l.foldl (dturn G W P turn) s = s ∧
    ∀ p ∈ l, (G.own p = P → nearOf G W s.ranks turn p = []) ∧ (G.own p ≠ P → ∃ q, q ∈ G.ways p ∧ q ∈ W ∧ ¬ ∃ r, aget s.ranks q = some r ∧ r < turn)
  | [], s, _ => ⟨rfl, fun _ h => by simp at h⟩
  | p :: l, s, h => by
    have h' : (l.foldl (dturn G W P turn) (dturn G W P turn s p)).fresh = false := h
    have e : dturn G W P turn s p = s ∧ (G.own p = P → nearOf G W s.ranks turn p = []) ∧ (G.own p ≠ P → ∃ q, q ∈ G.ways p ∧ q ∈ W ∧ ¬ ∃ r, aget s.ranks q = some r ∧ r < turn) := by
      rcases dturn_cases G W P turn s p with ⟨_, q, _, e⟩ | ⟨_, _, e⟩ | e
      · rw [dfold_fresh turn l _ (by rw [e])] at h'
        cases h'
      · rw [dfold_fresh turn l _ (by rw [e])] at h'
        cases h'
      · exact e
    rw [e.1] at h'
    have ih := dfold_same turn l s h'
    refine ⟨?_, fun q hq => ?_⟩
    · show l.foldl (dturn G W P turn) (dturn G W P turn s p) = s
      rw [e.1]
      exact ih.1
    · rcases List.mem_cons.mp hq with z | z
      · subst z
        exact e.2
      · exact ih.2 q z
def mu (W : List Int) (ranks : AL) : Nat := (unranked W ranks).length
theorem mu_put_le (W : List Int) (ranks : AL) (p v : Int) : mu W (aput ranks p v) ≤ mu W ranks := by
  unfold mu unranked
  induction W with
  | nil => exact Nat.le_refl _
  | cons a r ih =>
    rw [List.filter_cons, List.filter_cons, aget_put]
    by_cases e : a = p
    · rw [if_pos e]
      simp only [reduceCtorEq, decide_false, Bool.false_eq_true, if_false]
      split
      · rw [List.length_cons]; omega
      · exact ih
    · rw [if_neg e]
      split
      · rw [List.length_cons, List.length_cons]; omega
      · exact ih
theorem mu_put (ranks : AL) (p v : Int) (hn : aget ranks p = none) : ∀ W : List Int, p ∈ W → mu W (aput ranks p v) + 1 ≤ mu W ranks
  | [], h => by simp at h
  | a :: r, h => by
    have le := mu_put_le r ranks p v
    unfold mu unranked at *
    rw [List.filter_cons, List.filter_cons, aget_put]
    by_cases e : a = p
    · subst e
      simp only [if_true, hn, reduceCtorEq, decide_false, Bool.false_eq_true, if_false, decide_true, List.length_cons]
      omega
    · rw [if_neg e]
      have ih := mu_put ranks p v hn r ((List.mem_cons.mp h).resolve_left fun z => e z.symm)
      unfold mu unranked at ih
      split
      · rw [List.length_cons, List.length_cons]; omega
      · exact ih
/-- what holds of ranks and steps between rounds -/
structure DInv (G : Gm) (W : List Int) (P : Int) (goals : List Int) (t : Int) (ranks steps : AL) : Prop where
  t0 : 0 ≤ t
  zero : ∀ p, aget ranks p = some 0 ↔ p ∈ goals
  sub : ∀ p r, aget ranks p = some r → p ∈ W ∧ 0 ≤ r ∧ r ≤ t
  mine : ∀ p r, aget ranks p = some r → 0 < r → G.own p = P → ∃ q, aget steps p = some q ∧ q ∈ G.ways p ∧ q ∈ W ∧ ∃ r', aget ranks q = some r' ∧ r' < r
  his : ∀ p r, aget ranks p = some r → 0 < r → G.own p ≠ P → ∀ q, q ∈ G.ways p → q ∈ W → ∃ r', aget ranks q = some r' ∧ r' < r
  pus : ∀ p, aget steps p = none ∨ (G.own p = P ∧ ∃ r, aget ranks p = some r ∧ 0 < r)
  len : ranks.length + mu W ranks ≤ W.length + goals.length
  slen : steps.length ≤ ranks.length
theorem DInv.put {goals : List Int} {t : Int} {ranks steps : AL} (I : DInv G W P goals t ranks steps) (h1 : 1 ≤ t) {p : Int} (hp : p ∈ W) (hn : aget ranks p = none) {steps' : AL}
    (hs : (G.own p = P ∧ ∃ q, q ∈ nearOf G W ranks t p ∧ steps' = aput steps p q) ∨ (G.own p ≠ P ∧ (∀ q, q ∈ G.ways p → q ∈ W → ∃ r, aget ranks q = some r ∧ r < t) ∧ steps' = steps)) :
    DInv G W P goals t (aput ranks p t) steps' := by
  have keep : ∀ q r, aget ranks q = some r → aget (aput ranks p t) q = some r := fun q r h => by
    rw [aget_put, if_neg (fun z => by rw [z, hn] at h; cases h)]
    exact h
  have keepS : ∀ q x, aget steps q = some x → aget steps' q = some x := fun q x h => by
    rcases hs with ⟨ho, y, _, e⟩ | ⟨_, _, e⟩
    · rw [e, aget_put, if_neg fun z => ?_]
      · exact h
      · rcases I.pus q with z2 | ⟨_, r, z2, _⟩
        · rw [z2] at h; cases h
        · rw [z, hn] at z2; cases z2
    · rw [e]; exact h
  refine ⟨I.t0, fun q => ?_, fun q r h => ?_, fun q r h h0 ho => ?_, fun q r h h0 ho x hx hw => ?_, fun q => ?_, ?_, ?_⟩
  · rw [aget_put]
    by_cases e : q = p
    · subst e
      rw [if_pos rfl]
      constructor
      · intro z
        have : t = 0 := Option.some.inj z
        omega
      · intro z
        have := (I.zero q).mpr z
        rw [hn] at this
        cases this
    · rw [if_neg e]
      exact I.zero q
  · rw [aget_put] at h
    by_cases e : q = p
    · subst e
      rw [if_pos rfl] at h
      cases h
      exact ⟨hp, I.t0, Int.le_refl _⟩
    · rw [if_neg e] at h
      exact I.sub q r h
  · rw [aget_put] at h
    by_cases e : q = p
    · subst e
      rw [if_pos rfl] at h
      cases h
      rcases hs with ⟨_, y, hy, e⟩ | ⟨ho', _, _⟩
      · obtain ⟨h2, h3, r, h4, h5⟩ := mem_near.mp hy
        exact ⟨y, by rw [e, aget_put, if_pos rfl], h2, h3, r, keep _ _ h4, h5⟩
      · exact absurd ho ho'
    · rw [if_neg e] at h
      obtain ⟨y, h2, h3, h4, r', h5, h6⟩ := I.mine q r h h0 ho
      exact ⟨y, keepS _ _ h2, h3, h4, r', keep _ _ h5, h6⟩
  · rw [aget_put] at h
    by_cases e : q = p
    · subst e
      rw [if_pos rfl] at h
      cases h
      rcases hs with ⟨ho', _⟩ | ⟨_, ha, _⟩
      · exact absurd ho' ho
      · obtain ⟨r', h5, h6⟩ := ha x hx hw
        exact ⟨r', keep _ _ h5, h6⟩
    · rw [if_neg e] at h
      obtain ⟨r', h5, h6⟩ := I.his q r h h0 ho x hx hw
      exact ⟨r', keep _ _ h5, h6⟩
  · have old : aget steps q = none ∨ (G.own q = P ∧ ∃ r, aget (aput ranks p t) q = some r ∧ 0 < r) := by
      rcases I.pus q with z | ⟨z, r, h, h0⟩
      · exact .inl z
      · exact .inr ⟨z, r, keep _ _ h, h0⟩
    rcases hs with ⟨ho, y, hy, e⟩ | ⟨_, _, e⟩
    · rw [e, aget_put]
      by_cases z : q = p
      · subst z
        exact .inr ⟨ho, t, by rw [aget_put, if_pos rfl], by omega⟩
      · rw [if_neg z]
        exact old
    · rw [e]
      exact old
  · have := mu_put ranks p t hn W hp
    have := I.len
    rw [aput_len_new t hn]
    omega
  · rw [aput_len_new t hn]
    have := I.slen
    rcases hs with ⟨ho, y, hy, e⟩ | ⟨_, _, e⟩
    · rw [e]
      have := aput_len steps p y
      omega
    · rw [e]
      omega
theorem DInv.up {goals : List Int} {t t' : Int} {ranks steps : AL} (I : DInv G W P goals t ranks steps) (h : t ≤ t') : DInv G W P goals t' ranks steps :=
  ⟨by have := I.t0; omega, I.zero, fun p r e => by
    have q := I.sub p r e
    exact ⟨q.1, q.2.1, by omega⟩, I.mine, I.his, I.pus, I.len, I.slen⟩
theorem dfold_inv {goals : List Int} {t : Int} (h1 : 1 ≤ t) : ∀ (l : List Int) (s : DS), l.Nodup → (∀ p ∈ l, p ∈ W ∧ aget s.ranks p = none) → DInv G W P goals t s.ranks s.steps →
    DInv G W P goals t (l.foldl (dturn G W P t) s).ranks (l.foldl (dturn G W P t) s).steps ∧ mu W (l.foldl (dturn G W P t) s).ranks ≤ mu W s.ranks ∧
    ((l.foldl (dturn G W P t) s).fresh = true → s.fresh = false → mu W (l.foldl (dturn G W P t) s).ranks < mu W s.ranks)
  | [], s, _, _, I => ⟨I, Nat.le_refl _, fun a b => by
      have a' : s.fresh = true := a
      rw [b] at a'
      cases a'⟩
  | p :: l, s, hd, hl, I => by
    obtain ⟨hp, hn⟩ := hl p List.mem_cons_self
    obtain ⟨nd1, nd2⟩ := List.nodup_cons.mp hd
    have rest : ∀ (s' : DS), (s'.ranks = aput s.ranks p t ∨ s'.ranks = s.ranks) → ∀ q ∈ l, q ∈ W ∧ aget s'.ranks q = none := fun s' e q hq => by
      obtain ⟨h2, h3⟩ := hl q (List.mem_cons_of_mem _ hq)
      refine ⟨h2, ?_⟩
      rcases e with e | e
      · rw [e, aget_put, if_neg fun z => nd1 (by rw [← z]; exact hq)]
        exact h3
      · rw [e]
        exact h3
    show DInv G W P goals t (l.foldl (dturn G W P t) (dturn G W P t s p)).ranks (l.foldl (dturn G W P t) (dturn G W P t s p)).steps ∧ mu W (l.foldl (dturn G W P t) (dturn G W P t s p)).ranks ≤ mu W s.ranks ∧
      ((l.foldl (dturn G W P t) (dturn G W P t s p)).fresh = true → s.fresh = false → mu W (l.foldl (dturn G W P t) (dturn G W P t s p)).ranks < mu W s.ranks)
    rcases dturn_cases G W P t s p with ⟨ho, q, hq, e⟩ | ⟨ho, ha, e⟩ | ⟨e, _⟩
    · rw [e]
      have := dfold_inv h1 l ⟨aput s.ranks p t, aput s.steps p q, true⟩ nd2 (rest _ (.inl rfl)) (I.put h1 hp hn (.inl ⟨ho, q, hq, rfl⟩))
      have m := mu_put s.ranks p t hn W hp
      obtain ⟨a, b, _⟩ := this
      simp only at b
      exact ⟨a, by omega, fun _ _ => by omega⟩
    · rw [e]
      have := dfold_inv h1 l ⟨aput s.ranks p t, s.steps, true⟩ nd2 (rest _ (.inl rfl)) (I.put h1 hp hn (.inr ⟨ho, ha, rfl⟩))
      have m := mu_put s.ranks p t hn W hp
      obtain ⟨a, b, _⟩ := this
      simp only at b
      exact ⟨a, by omega, fun _ _ => by omega⟩
    · rw [e]
      exact dfold_inv h1 l s nd2 (rest _ (.inr rfl)) I
theorem dround_inv {goals : List Int} {t : Int} (hW : W.Nodup) (h1 : 0 ≤ t) {s : DS} (I : DInv G W P goals t s.ranks s.steps) :
    DInv G W P goals (t + 1) (dround G W P (t + 1) s).ranks (dround G W P (t + 1) s).steps ∧ ((dround G W P (t + 1) s).fresh = true → mu W (dround G W P (t + 1) s).ranks < mu W s.ranks) := by
  have := dfold_inv (G := G) (P := P) (goals := goals) (t := t + 1) (by omega) (unranked W s.ranks) ⟨s.ranks, s.steps, false⟩ (hW.sublist List.filter_sublist) (fun p hp => by
    have := List.mem_filter.mp hp
    exact ⟨this.1, of_decide_eq_true this.2⟩) (I.up (by omega))
  exact ⟨this.1, fun a => this.2.2 a rfl⟩
/-- behind a round in which nothing was drawn -/
structure DEnd (G : Gm) (W : List Int) (P : Int) (ranks : AL) : Prop where
  outm : ∀ p, p ∈ W → aget ranks p = none → G.own p = P → ∀ q, q ∈ G.ways p → q ∈ W → aget ranks q = none
  outh : ∀ p, p ∈ W → aget ranks p = none → G.own p ≠ P → ∃ q, q ∈ G.ways p ∧ q ∈ W ∧ aget ranks q = none
theorem dround_end {goals : List Int} {t : Int} {s : DS} (I : DInv G W P goals t s.ranks s.steps) (h : (dround G W P (t + 1) s).fresh = false) : DEnd G W P (dround G W P (t + 1) s).ranks := by
  obtain ⟨e, k⟩ := dfold_same (t + 1) _ _ h
  have e' : (dround G W P (t + 1) s).ranks = s.ranks := by
    show ((unranked W s.ranks).foldl (dturn G W P (t + 1)) ⟨s.ranks, s.steps, false⟩).ranks = s.ranks
    rw [e]
  rw [e']
  refine ⟨fun p hp hn ho q hq hw => ?_, fun p hp hn ho => ?_⟩
  · have := (k p (List.mem_filter.mpr ⟨hp, decide_eq_true hn⟩)).1 ho
    cases hr : aget s.ranks q with
    | none => rfl
    | some r =>
      have h2 : q ∈ nearOf G W s.ranks (t + 1) p := mem_near.mpr ⟨hq, hw, r, hr, by have := I.sub q r hr; omega⟩
      have this : nearOf G W s.ranks (t + 1) p = [] := this
      rw [this] at h2
      simp at h2
  · obtain ⟨q, h1, h2, h3⟩ := (k p (List.mem_filter.mpr ⟨hp, decide_eq_true hn⟩)).2 ho
    refine ⟨q, h1, h2, ?_⟩
    cases hr : aget s.ranks q with
    | none => rfl
    | some r => exact (h3 ⟨r, hr, by have := I.sub q r hr; omega⟩).elim
theorem dloop_inv {goals : List Int} (hW : W.Nodup) : ∀ (n : Nat) (t : Int) (s : DS), 0 ≤ t → DInv G W P goals t s.ranks s.steps → (s.fresh = true → mu W s.ranks + 1 ≤ n) → (s.fresh = false → DEnd G W P s.ranks) →
    (∃ t', DInv G W P goals t' (dloop G W P n t s).ranks (dloop G W P n t s).steps) ∧ DEnd G W P (dloop G W P n t s).ranks ∧ (dloop G W P n t s).fresh = false
  | 0, t, s, h0, I, hm, he => by
    have : s.fresh = false := by
      cases h : s.fresh with
      | false => rfl
      | true => have := hm h; omega
    exact ⟨⟨t, I⟩, he this, this⟩
  | n + 1, t, s, h0, I, hm, he => by
    unfold dloop
    by_cases h : s.fresh = true
    · rw [if_pos h]
      have d := dround_inv hW h0 I
      exact dloop_inv hW n (t + 1) _ (by omega) d.1 (fun z => by have := d.2 z; have := hm h; omega) (fun z => dround_end I z)
    · rw [if_neg h]
      have h' : s.fresh = false := by simpa using h
      exact ⟨⟨t, I⟩, he h', h'⟩
theorem zero_fold : ∀ (goals : List Int) (d : AL) (k : Int), aget (goals.foldl (fun d p => aput d p 0) d) k = if k ∈ goals then some 0 else aget d k
  | [], d, k => by simp
  | p :: r, d, k => by
    show aget (r.foldl (fun d p => aput d p 0) (aput d p 0)) k = _
    rw [zero_fold r, aget_put]
    by_cases h : k ∈ r
    · simp [h]
    · by_cases e : k = p
      · simp [e]
      · simp [h, e]
theorem zero_len : ∀ (goals : List Int) (d : AL), (goals.foldl (fun d p => aput d p 0) d).length ≤ d.length + goals.length
  | [], d => Nat.le_refl _
  | p :: r, d => by
    have h := zero_len r (aput d p 0)
    have h2 := aput_len d p 0
    show (r.foldl (fun d p => aput d p 0) (aput d p 0)).length ≤ _
    rw [List.length_cons]
    omega
theorem mu_le (W : List Int) (ranks : AL) : mu W ranks ≤ W.length := List.length_filter_le _ _
theorem dstart_inv {goals : List Int} (hg : ∀ p ∈ goals, p ∈ W) : DInv G W P goals 0 (dstart goals).ranks (dstart goals).steps := by
  have z : ∀ k, aget (dstart goals).ranks k = if k ∈ goals then some 0 else none := fun k => zero_fold goals [] k
  have one : ∀ p r, aget (dstart goals).ranks p = some r → p ∈ goals ∧ r = 0 := fun p r h => by
    rw [z] at h
    by_cases e : p ∈ goals
    · rw [if_pos e] at h
      cases h
      exact ⟨e, rfl⟩
    · rw [if_neg e] at h
      cases h
  refine ⟨Int.le_refl _, fun p => ?_, fun p r h => ?_, fun p r h h0 => ?_, fun p r h h0 => ?_, fun p => .inl rfl, ?_, Nat.zero_le _⟩
  · rw [z]
    by_cases e : p ∈ goals <;> simp [e]
  · obtain ⟨h1, h2⟩ := one p r h
    exact ⟨hg p h1, by omega, by omega⟩
  · have := (one p r h).2
    omega
  · have := (one p r h).2
    omega
  · have h1 := zero_len goals []
    have h2 := mu_le W (dstart goals).ranks
    have h3 : (dstart goals).ranks.length = (goals.foldl (fun d p => aput d p 0) ([] : AL)).length := rfl
    have h4 : ([] : AL).length = 0 := rfl
    omega
theorem drawn_ok {goals : List Int} (hW : W.Nodup) (hg : ∀ p ∈ goals, p ∈ W) :
    (∃ t, DInv G W P goals t (drawnS G W P goals).ranks (drawnS G W P goals).steps) ∧ DEnd G W P (drawnS G W P goals).ranks ∧ (drawnS G W P goals).fresh = false :=
  dloop_inv hW _ 0 _ (Int.le_refl _) (dstart_inv hg) (fun _ => by have := mu_le W (dstart goals).ranks; omega) (fun z => by cases z)
theorem drawn_att {goals : List Int} (hW : W.Nodup) (hg : ∀ p ∈ goals, p ∈ W) : Att G (· ∈ W) P (· ∈ goals) (aget (drawnS G W P goals).ranks) (aget (drawnS G W P goals).steps) := by
  obtain ⟨⟨t, I⟩, E, _⟩ := drawn_ok (G := G) (P := P) hW hg
  exact ⟨I.zero, fun p r h => ⟨(I.sub p r h).1, (I.sub p r h).2.1⟩, I.mine, I.his, E.outm, E.outh, I.pus⟩
end
end Zk
namespace Zk
/-! ### parted -/
def maxL : List Int → Int
  | [] => 0
  | a :: r => r.foldl (fun m x => if x > m then x else m) a
theorem maxL_fold : ∀ (r : List Int) (a : Int), (r.foldl (fun m x => if x > m then x else m) a = a ∨ r.foldl (fun m x => if x > m then x else m) a ∈ r) ∧ a ≤ r.foldl (fun m x => if x > m then x else m) a ∧ ∀ x ∈ r, x ≤ r.foldl (fun m x => if x > m then x else m) a
  | [], a => ⟨.inl rfl, Int.le_refl _, fun _ h => by simp at h⟩
  | b :: r, a => by
    obtain ⟨h1, h2, h3⟩ := maxL_fold r (if b > a then b else a)
    show (r.foldl (fun m x => if x > m then x else m) (if b > a then b else a) = a ∨ _) ∧ _
    refine ⟨?_, ?_, fun x hx => ?_⟩
    · rcases h1 with h1 | h1
      · by_cases c : b > a
        · rw [if_pos c] at h1
          exact .inr (List.mem_cons.mpr (.inl (by simpa [c] using h1)))
        · rw [if_neg c] at h1
          exact .inl (by simpa [c] using h1)
      · exact .inr (List.mem_cons_of_mem _ h1)
    · refine Int.le_trans ?_ h2
      split <;> omega
    · rcases List.mem_cons.mp hx with rfl | hx
      · refine Int.le_trans ?_ h2
        split <;> omega
      · exact h3 x hx
theorem maxL_mem {l : List Int} (h : l ≠ []) : maxL l ∈ l := by
  cases l with
  | nil => exact absurd rfl h
  | cons a r =>
    rcases (maxL_fold r a).1 with e | e
    · show r.foldl (fun m x => if x > m then x else m) a ∈ a :: r
      rw [e]
      exact List.mem_cons_self
    · exact List.mem_cons_of_mem _ e
theorem maxL_le {l : List Int} {x : Int} (h : x ∈ l) : x ≤ maxL l := by
  cases l with
  | nil => simp at h
  | cons a r =>
    rcases List.mem_cons.mp h with rfl | h
    · exact (maxL_fold r x).2.1
    · exact (maxL_fold r a).2.2 x h
theorem maxL_eq {l : List Int} {m : Int} (hm : m ∈ l) (hle : ∀ y ∈ l, y ≤ m) : maxL l = m :=
  Int.le_antisymm (hle _ (maxL_mem (by intro z; rw [z] at hm; simp at hm))) (maxL_le hm)

section
variable (G : Gm)
/-- one place of won_by_all -/
def allOne (W : List Int) (P : Int) (steps pulls : AL) (s : AL × AL) (p : Int) : AL × AL :=
  (aput s.1 p P,
    if G.own p = P then
      (match aget pulls p with
      | some q => aput s.2 p q
      | none => match aget steps p with
        | some q => aput s.2 p q
        | none => aput s.2 p ((waysIn G W p).headD 0))
    else s.2)
def wonAll (W : List Int) (P : Int) (steps pulls : AL) : AL × AL := W.foldl (allOne G W P steps pulls) ([], [])
/-- one place of the last loop -/
def lostOne (O : Int) (steps pulls : AL) (s : AL × AL) (p : Int) : AL × AL :=
  (aput s.1 p O,
    match aget pulls p with
    | some q => aput s.2 p q
    | none => if G.own p = O then aput s.2 p ((aget steps p).getD 0) else s.2)
def topOf (W : List Int) : Int := maxL (W.map G.num)
def topsOf (W : List Int) : List Int := W.filter fun p => decide (G.num p = topOf G W)
def drawn1 (W : List Int) : DS := drawnS G W (topOf G W % 2) (topsOf G W)
def sub1 (W : List Int) : List Int := W.filter fun p => decide (aget (drawn1 G W).ranks p = none)
def lostOf (W : List Int) (winners : AL) : List Int := W.filter fun p => decide (aget (drawn1 G W).ranks p = none) && !decide (aget winners p = some (topOf G W % 2))
def drawn2 (W : List Int) (winners : AL) : DS := drawnS G W (1 - topOf G W % 2) (lostOf G W winners)
def sub2 (W : List Int) (winners : AL) : List Int := W.filter fun p => decide (aget (drawn2 G W winners).ranks p = none)
def partedF : Nat → List Int → AL × AL
  | 0, _ => ([], [])
  | n + 1, W => if W = [] then ([], []) else
    let r := partedF n (sub1 G W)
    if lostOf G W r.1 = [] then wonAll G W (topOf G W % 2) r.2 (drawn1 G W).steps
    else ((drawn2 G W r.1).ranks.map (·.1)).foldl (lostOne G (1 - topOf G W % 2) r.2 (drawn2 G W r.1).steps) (partedF n (sub2 G W r.1))
end
section
variable {G : Gm} {W : List Int}
theorem wonAll_fst (P : Int) (steps pulls : AL) : ∀ (l : List Int) (s : AL × AL) (k : Int), aget (l.foldl (allOne G W P steps pulls) s).1 k = if k ∈ l then some P else aget s.1 k
  | [], s, k => by simp
  | p :: r, s, k => by
    show aget (r.foldl (allOne G W P steps pulls) (allOne G W P steps pulls s p)).1 k = _
    rw [wonAll_fst P steps pulls r]
    show (if k ∈ r then some P else aget (aput s.1 p P) k) = _
    rw [aget_put]
    by_cases h : k ∈ r
    · simp [h]
    · by_cases e : k = p
      · simp [e]
      · simp [h, e]
/-- the step that won_by_all gives -/
def allStep (G : Gm) (W : List Int) (P : Int) (steps pulls : AL) (p : Int) : Option Int :=
  if G.own p = P then
    (match aget pulls p with
    | some q => some q
    | none => match aget steps p with
      | some q => some q
      | none => some ((waysIn G W p).headD 0))
  else none
theorem allOne_snd (P : Int) (steps pulls : AL) (s : AL × AL) (p k : Int) : aget (allOne G W P steps pulls s p).2 k = if k = p ∧ G.own p = P then allStep G W P steps pulls p else aget s.2 k := by
  unfold allOne allStep
  by_cases ho : G.own p = P
  · simp only [ho, if_true, and_true]
    cases aget pulls p with
    | some q => simp only [aget_put]
    | none =>
      cases aget steps p with
      | some q => simp only [aget_put]
      | none => simp only [aget_put]
  · simp only [ho, if_false, and_false]
theorem wonAll_snd (P : Int) (steps pulls : AL) : ∀ (l : List Int) (s : AL × AL) (k : Int), aget (l.foldl (allOne G W P steps pulls) s).2 k = if k ∈ l ∧ G.own k = P then allStep G W P steps pulls k else aget s.2 k
  | [], s, k => by simp
  | p :: r, s, k => by
    show aget (r.foldl (allOne G W P steps pulls) (allOne G W P steps pulls s p)).2 k = _
    rw [wonAll_snd P steps pulls r, allOne_snd]
    by_cases ho : G.own k = P
    · by_cases h : k ∈ r
      · simp [h, ho]
      · by_cases e : k = p
        · subst e
          simp [h, ho]
        · simp [h, e]
    · by_cases e : k = p
      · subst e
        simp [ho]
      · simp [ho, e]
theorem lost_fst (O : Int) (steps pulls : AL) : ∀ (l : List Int) (s : AL × AL) (k : Int), aget (l.foldl (lostOne G O steps pulls) s).1 k = if k ∈ l then some O else aget s.1 k
  | [], s, k => by simp
  | p :: r, s, k => by
    show aget (r.foldl (lostOne G O steps pulls) (lostOne G O steps pulls s p)).1 k = _
    rw [lost_fst O steps pulls r]
    show (if k ∈ r then some O else aget (aput s.1 p O) k) = _
    rw [aget_put]
    by_cases h : k ∈ r
    · simp [h]
    · by_cases e : k = p
      · simp [e]
      · simp [h, e]
def lostStep (G : Gm) (O : Int) (steps pulls : AL) (p : Int) (old : Option Int) : Option Int :=
  match aget pulls p with
  | some q => some q
  | none => if G.own p = O then some ((aget steps p).getD 0) else old
theorem lostOne_snd (O : Int) (steps pulls : AL) (s : AL × AL) (p k : Int) : aget (lostOne G O steps pulls s p).2 k = if k = p then lostStep G O steps pulls p (aget s.2 p) else aget s.2 k := by
  unfold lostOne lostStep
  cases aget pulls p with
  | some q => simp only [aget_put]
  | none =>
    by_cases ho : G.own p = O
    · simp only [ho, if_true, aget_put]
    · simp only [ho, if_false]
      by_cases e : k = p
      · simp [e]
      · simp [e]
theorem lost_snd (O : Int) (steps pulls : AL) : ∀ (l : List Int) (s : AL × AL) (k : Int), aget (l.foldl (lostOne G O steps pulls) s).2 k = if k ∈ l then lostStep G O steps pulls k (aget s.2 k) else aget s.2 k
  | [], s, k => by simp
  | p :: r, s, k => by
    show aget (r.foldl (lostOne G O steps pulls) (lostOne G O steps pulls s p)).2 k = _
    rw [lost_snd O steps pulls r, lostOne_snd]
    by_cases e : k = p
    · subst e
      rw [if_pos rfl]
      by_cases h : k ∈ r
      · rw [if_pos h, if_pos List.mem_cons_self]
        unfold lostStep
        cases aget pulls k with
        | some q => rfl
        | none =>
          by_cases ho : G.own k = O
          · simp [ho]
          · simp [ho]
      · rw [if_neg h, if_pos List.mem_cons_self]
    · by_cases h : k ∈ r
      · simp [h, e]
      · simp [h, e]
theorem mem_sub1 {p : Int} : p ∈ sub1 G W ↔ p ∈ W ∧ aget (drawn1 G W).ranks p = none := by simp [sub1]
theorem mem_lost {winners : AL} {p : Int} : p ∈ lostOf G W winners ↔ p ∈ W ∧ aget (drawn1 G W).ranks p = none ∧ aget winners p ≠ some (topOf G W % 2) := by
  simp [lostOf]
theorem mem_sub2 {winners : AL} {p : Int} : p ∈ sub2 G W winners ↔ p ∈ W ∧ aget (drawn2 G W winners).ranks p = none := by simp [sub2]
theorem mem_tops {p : Int} : p ∈ topsOf G W ↔ p ∈ W ∧ G.num p = topOf G W := by simp [topsOf]
theorem top_some (h : W ≠ []) : ∃ p, p ∈ topsOf G W := by
  have : topOf G W ∈ W.map G.num := maxL_mem (by cases W with | nil => exact absurd rfl h | cons a r => simp)
  obtain ⟨p, hp, e⟩ := List.mem_map.mp this
  exact ⟨p, mem_tops.mpr ⟨hp, e⟩⟩
theorem top_le {p : Int} (h : p ∈ W) : G.num p ≤ topOf G W := maxL_le (List.mem_map.mpr ⟨p, h, rfl⟩)
theorem drawn1_att (hW : W.Nodup) : Att G (· ∈ W) (topOf G W % 2) (· ∈ topsOf G W) (aget (drawn1 G W).ranks) (aget (drawn1 G W).steps) := drawn_att hW fun p hp => (mem_tops.mp hp).1
theorem drawn2_att (hW : W.Nodup) (winners : AL) : Att G (· ∈ W) (1 - topOf G W % 2) (· ∈ lostOf G W winners) (aget (drawn2 G W winners).ranks) (aget (drawn2 G W winners).steps) := drawn_att hW fun p hp => (mem_lost.mp hp).1
theorem len_lt {W : List Int} {f : Int → Bool} {p : Int} (hp : p ∈ W) (h : f p = false) : (W.filter f).length < W.length := by
  have h1 := List.length_filter_le f W
  rcases Nat.lt_or_ge (W.filter f).length W.length with z | z
  · exact z
  · have := List.length_filter_eq_length_iff.mp (Nat.le_antisymm h1 z) p hp
    rw [h] at this
    cases this
theorem sub1_lt (hW : W.Nodup) (h : W ≠ []) : (sub1 G W).length < W.length := by
  obtain ⟨p, hp⟩ := top_some (G := G) h
  have := ((drawn1_att hW).zero p).mpr hp
  exact len_lt (mem_tops.mp hp).1 (by simp [this])
theorem sub2_lt (hW : W.Nodup) {winners : AL} (h : lostOf G W winners ≠ []) : (sub2 G W winners).length < W.length := by
  obtain ⟨p, hp⟩ := List.exists_mem_of_ne_nil _ h
  have := ((drawn2_att hW winners).zero p).mpr hp
  exact len_lt (mem_lost.mp hp).1 (by simp [this])
/-- what parted tells -/
structure POk (G : Gm) (W : List Int) (r : AL × AL) : Prop where
  dom : ∀ p, aget r.1 p ≠ none ↔ p ∈ W
  two : ∀ p w, aget r.1 p = some w → w = 0 ∨ w = 1
  led : ∀ p, aget r.2 p ≠ none ↔ aget r.1 p = some (G.own p)
  good : ∀ P, P = 0 ∨ P = 1 → Flw G (· ∈ W) P (fun p => aget r.1 p = some P) (aget r.2)
theorem Flw.congr {G : Gm} {W W' S S' : Int → Prop} {P : Int} {st : Int → Option Int} (h : Flw G W P S st) (hW : ∀ p, W' p ↔ W p) (hS : ∀ p, S' p ↔ S p) : Flw G W' P S' st := by
  have e1 : W' = W := funext fun p => propext (hW p)
  have e2 : S' = S := funext fun p => propext (hS p)
  rw [e1, e2]
  exact h
theorem parted_ok : ∀ (n : Nat) (W : List Int), W.Nodup → W.length ≤ n → Tot G (· ∈ W) → (∀ p, p ∈ W → G.own p = 0 ∨ G.own p = 1) → POk G W (partedF G n W)
  | 0, W, hW, hn, ht, ho => by
    have e : W = [] := List.length_eq_zero_iff.mp (by omega)
    subst e
    refine ⟨fun p => by simp [partedF, aget_nil], fun p w h => by simp [partedF, aget_nil] at h, fun p => by simp [partedF, aget_nil], fun P hP => ⟨fun p h => ?_, fun p h => ?_, fun p h => ?_, fun p h => ?_⟩⟩ <;> simp [partedF, aget_nil] at h
  | n + 1, W, hW, hn, ht, ho => by
    unfold partedF
    by_cases e : W = []
    · rw [if_pos e]
      subst e
      refine ⟨fun p => by simp [aget_nil], fun p w h => by simp [aget_nil] at h, fun p => by simp [aget_nil], fun P hP => ⟨fun p h => ?_, fun p h => ?_, fun p h => ?_, fun p h => ?_⟩⟩ <;> simp [aget_nil] at h
    · rw [if_neg e]
      have a1 := drawn1_att (G := G) hW
      have l1 := sub1_lt (G := G) hW e
      have t1 : Tot G (· ∈ sub1 G W) := fun p hp => by
        obtain ⟨q, h1, h2, h3⟩ := a1.tot ht p (mem_sub1.mp hp)
        exact ⟨q, h1, mem_sub1.mpr ⟨h2, h3⟩⟩
      have ih1 := parted_ok n (sub1 G W) (hW.sublist List.filter_sublist) (by omega) t1 (fun p hp => ho p (mem_sub1.mp hp).1)
      generalize hr : partedF G n (sub1 G W) = r at ih1
      show POk G W (if lostOf G W r.1 = [] then _ else _)
      have htop : topOf G W % 2 = 0 ∨ topOf G W % 2 = 1 := by omega
      by_cases hl : lostOf G W r.1 = []
      · rw [if_pos hl]
        -- all of the rest is the player's
        have all : ∀ p, p ∈ W → aget (drawn1 G W).ranks p = none → aget r.1 p = some (topOf G W % 2) := fun p hp hn => Classical.byContradiction fun z => by
          have : p ∈ lostOf G W r.1 := mem_lost.mpr ⟨hp, hn, z⟩
          rw [hl] at this
          simp at this
        have fst : ∀ p, aget (wonAll G W (topOf G W % 2) r.2 (drawn1 G W).steps).1 p = if p ∈ W then some (topOf G W % 2) else none := fun p => wonAll_fst _ _ _ W ([], []) p
        have snd : ∀ p, aget (wonAll G W (topOf G W % 2) r.2 (drawn1 G W).steps).2 p = if p ∈ W ∧ G.own p = topOf G W % 2 then allStep G W (topOf G W % 2) r.2 (drawn1 G W).steps p else none := fun p => wonAll_snd _ _ _ W ([], []) p
        have pn : ∀ p, aget (drawn1 G W).ranks p = none → aget (drawn1 G W).steps p = none := fun p hp => by
          rcases a1.pus p with z | ⟨_, r', z, _⟩
          · exact z
          · rw [hp] at z; cases z
        have p0 : ∀ p, aget (drawn1 G W).ranks p = some 0 → aget (drawn1 G W).steps p = none := fun p hp => by
          rcases a1.pus p with z | ⟨_, r', z, h0⟩
          · exact z
          · rw [hp] at z; cases z; omega
        have rn : ∀ p x, aget (drawn1 G W).ranks p = some x → aget r.2 p = none := fun p x hp => Classical.byContradiction fun z => by
          have := (ih1.led p).mp z
          have h2 := (ih1.dom p).mp (by rw [this]; simp)
          rw [(mem_sub1.mp h2).2] at hp
          cases hp
        refine ⟨fun p => ?_, fun p w h => ?_, fun p => ?_, fun P hP => ?_⟩
        · rw [fst]
          by_cases h : p ∈ W <;> simp [h]
        · rw [fst] at h
          by_cases k : p ∈ W
          · rw [if_pos k] at h
            cases h
            exact htop
          · rw [if_neg k] at h
            cases h
        · rw [snd, fst]
          by_cases h : p ∈ W
          · by_cases k : G.own p = topOf G W % 2
            · rw [if_pos ⟨h, k⟩, if_pos h, k]
              unfold allStep
              rw [if_pos k]
              cases aget (drawn1 G W).steps p with
              | some q => simp
              | none => cases aget r.2 p <;> simp
            · rw [if_neg fun z => k z.2, if_pos h]
              have : ¬ topOf G W % 2 = G.own p := fun z => k z.symm
              simp [this]
          · rw [if_neg fun z => h z.1, if_neg h]
            simp
        · by_cases hPt : P = topOf G W % 2
          · subst hPt
            have key := caseAll (G.num |> fun _ => a1) (top := topOf G W) (st := aget r.2) (led := aget (wonAll G W (topOf G W % 2) r.2 (drawn1 G W).steps).2) (fun p hp => (mem_tops.mp hp).2) (fun p hp h => mem_tops.mpr ⟨hp, h⟩) (fun p hp => top_le hp) rfl
              ((ih1.good _ hP).congr (fun p => mem_sub1.symm) (fun p => ⟨fun h => all p h.1 h.2, fun h => mem_sub1.mp ((ih1.dom p).mp (by rw [h]; simp))⟩))
              (fun p q hp ho' h => by
                rw [snd, if_pos ⟨hp, ho'⟩]
                unfold allStep
                rw [if_pos ho', h])
              (fun p q hp ho' hn h => by
                rw [snd, if_pos ⟨hp, ho'⟩]
                unfold allStep
                rw [if_pos ho', pn p hn, h])
              (fun p hp ho' h0 => by
                obtain ⟨q, hq, hw⟩ := ht p hp
                have ne : waysIn G W p ≠ [] := fun z => by
                  have : q ∈ waysIn G W p := List.mem_filter.mpr ⟨hq, decide_eq_true hw⟩
                  rw [z] at this
                  simp at this
                have hm := List.mem_filter.mp (head_mem ne)
                refine ⟨(waysIn G W p).headD 0, ?_, hm.1, of_decide_eq_true hm.2⟩
                rw [snd, if_pos ⟨hp, ho'⟩]
                unfold allStep
                rw [if_pos ho', p0 p h0, rn p 0 h0])
            exact key.congr (fun _ => Iff.rfl) (fun p => by
              show aget (wonAll G W (topOf G W % 2) r.2 (drawn1 G W).steps).1 p = some (topOf G W % 2) ↔ p ∈ W
              rw [fst]
              by_cases h : p ∈ W <;> simp [h])
          · have no : ∀ p, ¬ aget (wonAll G W (topOf G W % 2) r.2 (drawn1 G W).steps).1 p = some P := fun p h => by
              rw [fst] at h
              by_cases k : p ∈ W
              · rw [if_pos k] at h
                exact hPt (Option.some.inj h).symm
              · rw [if_neg k] at h
                cases h
            exact ⟨fun p h => (no p h).elim, fun p h => (no p h).elim, fun p h => (no p h).elim, fun p h => (no p h).elim⟩
      · rw [if_neg hl]
        have a2 := drawn2_att (G := G) hW r.1
        have l2 := sub2_lt (G := G) hW hl
        have t2 : Tot G (· ∈ sub2 G W r.1) := fun p hp => by
          obtain ⟨q, h1, h2, h3⟩ := a2.tot ht p (mem_sub2.mp hp)
          exact ⟨q, h1, mem_sub2.mpr ⟨h2, h3⟩⟩
        have ih2 := parted_ok n (sub2 G W r.1) (hW.sublist List.filter_sublist) (by omega) t2 (fun p hp => ho p (mem_sub2.mp hp).1)
        generalize partedF G n (sub2 G W r.1) = r2 at ih2
        have hO : (1 - topOf G W % 2 = 0 ∨ 1 - topOf G W % 2 = 1) := by omega
        have fst : ∀ p, aget (((drawn2 G W r.1).ranks.map (·.1)).foldl (lostOne G (1 - topOf G W % 2) r.2 (drawn2 G W r.1).steps) r2).1 p = if aget (drawn2 G W r.1).ranks p ≠ none then some (1 - topOf G W % 2) else aget r2.1 p := fun p => by
          rw [lost_fst]
          by_cases h : aget (drawn2 G W r.1).ranks p ≠ none
          · rw [if_pos h, if_pos (aget_key.mpr h)]
          · rw [if_neg h, if_neg fun z => h (aget_key.mp z)]
        have snd : ∀ p, aget (((drawn2 G W r.1).ranks.map (·.1)).foldl (lostOne G (1 - topOf G W % 2) r.2 (drawn2 G W r.1).steps) r2).2 p = if aget (drawn2 G W r.1).ranks p ≠ none then lostStep G (1 - topOf G W % 2) r.2 (drawn2 G W r.1).steps p (aget r2.2 p) else aget r2.2 p := fun p => by
          rw [lost_snd]
          by_cases h : aget (drawn2 G W r.1).ranks p ≠ none
          · rw [if_pos h, if_pos (aget_key.mpr h)]
          · rw [if_neg h, if_neg fun z => h (aget_key.mp z)]
        have r2n : ∀ p x, aget (drawn2 G W r.1).ranks p = some x → aget r2.1 p = none := fun p x hp => Classical.byContradiction fun z => by
          have h2 := (ih2.dom p).mp z
          rw [(mem_sub2.mp h2).2] at hp
          cases hp
        have r22n : ∀ p x, aget (drawn2 G W r.1).ranks p = some x → aget r2.2 p = none := fun p x hp => Classical.byContradiction fun z => by
          have := (ih2.led p).mp z
          rw [r2n p x hp] at this
          cases this
        have own2 : ∀ p, p ∈ W → G.own p = topOf G W % 2 ∨ G.own p = 1 - topOf G W % 2 := fun p hp => by
          have := ho p hp
          omega
        refine ⟨fun p => ?_, fun p w h => ?_, fun p => ?_, fun P hP => ?_⟩
        · rw [fst]
          cases h : aget (drawn2 G W r.1).ranks p with
          | some x =>
            simp only [ne_eq, reduceCtorEq, not_false_eq_true, if_true, true_iff]
            exact (a2.sub p x h).1
          | none =>
            simp only [ne_eq, not_true_eq_false, if_false]
            rw [← ne_eq, ih2.dom, mem_sub2]
            exact ⟨fun z => z.1, fun z => ⟨z, h⟩⟩
        · rw [fst] at h
          cases k : aget (drawn2 G W r.1).ranks p with
          | some x =>
            rw [if_pos (by rw [k]; simp)] at h
            cases h
            exact hO
          | none =>
            rw [if_neg (by rw [k]; simp)] at h
            exact ih2.two p w h
        · rw [snd, fst]
          cases k : aget (drawn2 G W r.1).ranks p with
          | some x =>
            rw [if_pos (by simp), if_pos (by simp)]
            unfold lostStep
            rcases a2.pus p with z | ⟨z, _⟩
            · rw [z]
              by_cases hh : G.own p = 1 - topOf G W % 2
              · simp [hh]
              · have hh2 : ¬ 1 - topOf G W % 2 = G.own p := fun q => hh q.symm
                simp [hh, hh2, r22n p x k]
            · rw [z]
              cases h9 : aget (drawn2 G W r.1).steps p with
              | some q => simp
              | none => simp
          | none =>
            rw [if_neg (by simp), if_neg (by simp)]
            exact ih2.led p
        · by_cases hPt : P = topOf G W % 2
          · subst hPt
            have key := caseKept (led := aget (((drawn2 G W r.1).ranks.map (·.1)).foldl (lostOne G (1 - topOf G W % 2) r.2 (drawn2 G W r.1).steps) r2).2) (P := topOf G W % 2) (O := 1 - topOf G W % 2) (by omega) own2 a2 ((ih2.good _ hP).congr (fun p => mem_sub2.symm) (fun p => Iff.rfl)) (fun p q hp ho' h => by
              have h2 := (ih2.dom p).mp (by rw [hp]; simp)
              rw [snd, if_neg (by rw [(mem_sub2.mp h2).2]; simp)]
              exact h)
            refine key.congr (fun _ => Iff.rfl) (fun p => ?_)
            rw [fst]
            cases k : aget (drawn2 G W r.1).ranks p with
            | some x =>
              rw [if_pos (by simp), r2n p x k]
              simp
              omega
            | none => rw [if_neg (by simp)]
          · have hPo : P = 1 - topOf G W % 2 := by omega
            subst hPo
            have f1 := (ih1.good _ hO).congr (W' := fun p => p ∈ W ∧ aget (drawn1 G W).ranks p = none) (S' := (· ∈ lostOf G W r.1)) (fun p => mem_sub1.symm) (fun p => by
              rw [mem_lost]
              constructor
              · intro ⟨h1, h2, h3⟩
                cases h : aget r.1 p with
                | none => exact absurd h ((ih1.dom p).mpr (mem_sub1.mpr ⟨h1, h2⟩))
                | some x =>
                  have := ih1.two p x h
                  have h4 : x ≠ topOf G W % 2 := fun z => h3 (by rw [h, z])
                  have h5 : x = 1 - topOf G W % 2 := by omega
                  rw [h5]
              · intro h
                have h2 := mem_sub1.mp ((ih1.dom p).mp (by rw [h]; simp))
                refine ⟨h2.1, h2.2, fun z => ?_⟩
                rw [h] at z
                have := Option.some.inj z
                omega)
            have key := caseLost (led := aget (((drawn2 G W r.1).ranks.map (·.1)).foldl (lostOne G (1 - topOf G W % 2) r.2 (drawn2 G W r.1).steps) r2).2) (V := fun _ => True) (P := topOf G W % 2) (O := 1 - topOf G W % 2) (by omega) own2 a1 f1 a2 ((ih2.good _ hO).congr (fun p => mem_sub2.symm) (fun p => Iff.rfl))
              (fun p q ho' h => by
                rcases a2.pus p with z | ⟨_, x, z, _⟩
                · rw [z] at h; cases h
                · rw [snd, if_pos (by rw [z]; simp)]
                  unfold lostStep
                  rw [h])
              (fun p q ho' hL h => by
                have z := (a2.zero p).mpr hL
                rw [snd, if_pos (by rw [z]; simp)]
                unfold lostStep
                have zn : aget (drawn2 G W r.1).steps p = none := by
                  rcases a2.pus p with y | ⟨_, x, y, h0⟩
                  · exact y
                  · rw [z] at y; cases y; omega
                rw [zn, if_pos ho', h]
                rfl)
              (fun p q ho' hS h => by
                have h2 := (ih2.dom p).mp (by rw [hS]; simp)
                rw [snd, if_neg (by rw [(mem_sub2.mp h2).2]; simp)]
                exact h)
            refine key.congr (fun _ => Iff.rfl) (fun p => ?_)
            rw [fst]
            cases k : aget (drawn2 G W r.1).ranks p with
            | some x =>
              rw [if_pos (by simp)]
              simp
            | none =>
              rw [if_neg (by simp)]
              simp
end
end Zk
namespace Zk
theorem nodup_len : ∀ (l L : List Int), l.Nodup → (∀ x ∈ l, x ∈ L) → l.length ≤ L.length
  | [], L, _, _ => Nat.zero_le _
  | a :: r, L, hd, hs => by
    obtain ⟨h1, h2⟩ := List.nodup_cons.mp hd
    have ha : a ∈ L := hs a List.mem_cons_self
    have ih := nodup_len r (L.erase a) h2 fun x hx => (List.mem_erase_of_ne (fun e => h1 (by rw [← e]; exact hx))).mpr (hs x (List.mem_cons_of_mem _ hx))
    rw [List.length_erase_of_mem ha] at ih
    have : 0 < L.length := List.length_pos_of_mem ha
    rw [List.length_cons]
    omega
/-- f again and again -/
def iter (f : Int → Int) : Nat → Int → Int
  | 0, p => p
  | n + 1, p => iter f n (f p)
theorem iter_succ (f : Int → Int) : ∀ (n : Nat) (p : Int), iter f (n + 1) p = f (iter f n p)
  | 0, p => rfl
  | n + 1, p => iter_succ f n (f p)
theorem iter_add (f : Int → Int) (n : Nat) : ∀ (m : Nat) (p : Int), iter f (m + n) p = iter f n (iter f m p)
  | 0, p => by rw [Nat.zero_add]; rfl
  | m + 1, p => by
    rw [Nat.add_right_comm]
    exact iter_add f n m (f p)
theorem iter_inv {f : Int → Int} {I : Int → Prop} (h : ∀ p, I p → I (f p)) : ∀ (n : Nat) (p : Int), I p → I (iter f n p)
  | 0, _, hp => hp
  | n + 1, p, hp => iter_inv h n (f p) (h p hp)
/-- some place is met twice -/
theorem meets {f : Int → Int} {I : Int → Prop} {L : List Int} (h : ∀ p, I p → I (f p)) (hL : ∀ p, I p → p ∈ L) {p : Int} (hp : I p) : ∃ i j, i < j ∧ j ≤ L.length ∧ iter f i p = iter f j p := by
  refine Classical.byContradiction fun no => ?_
  have hne : ∀ i j, i < j → j ≤ L.length → iter f i p ≠ iter f j p := fun i j h1 h2 e => no ⟨i, j, h1, h2, e⟩
  have hd : ((List.range (L.length + 1)).map fun i => iter f i p).Nodup := by
    rw [List.Nodup, List.pairwise_map]
    refine List.Pairwise.imp_of_mem ?_ (List.pairwise_lt_range (n := L.length + 1))
    intro a b ha hb hab
    exact hne a b hab (by have := List.mem_range.mp hb; omega)
  have := nodup_len _ L hd fun x hx => by
    obtain ⟨i, _, rfl⟩ := List.mem_map.mp hx
    exact hL _ (iter_inv h i p hp)
  rw [List.length_map, List.length_range] at this
  omega
/-- a ring of f: from one of its places with the greatest number back to it -/
theorem ring_top {f : Int → Int} (num : Int → Int) {q : Int} {k : Nat} (hk : 0 < k) (hq : iter f k q = q) : ∃ i, i < k ∧ ∀ j, num (iter f j q) ≤ num (iter f i q) := by
  have per : ∀ j m, iter f (j + m * k) q = iter f j q := by
    intro j m
    induction m with
    | zero => rw [Nat.zero_mul]; rfl
    | succ m ih =>
      have e : j + (m + 1) * k = k + (j + m * k) := by rw [Nat.add_mul]; omega
      rw [e, iter_add, hq]
      exact ih
  have best : ∀ n, 0 < n → ∃ i, i < n ∧ ∀ j, j < n → num (iter f j q) ≤ num (iter f i q) := by
    intro n
    induction n with
    | zero => intro h; omega
    | succ n ih =>
      intro _
      by_cases h : n = 0
      · exact ⟨0, by omega, fun j hj => by
          have : j = 0 := by omega
          rw [this]; exact Int.le_refl _⟩
      · obtain ⟨i, h1, h2⟩ := ih (by omega)
        by_cases c : num (iter f i q) ≤ num (iter f n q)
        · exact ⟨n, by omega, fun j hj => by
            by_cases e : j = n
            · rw [e]; exact Int.le_refl _
            · exact Int.le_trans (h2 j (by omega)) c⟩
        · exact ⟨i, by omega, fun j hj => by
            by_cases e : j = n
            · rw [e]; omega
            · exact h2 j (by omega)⟩
  obtain ⟨i, h1, h2⟩ := best k hk
  refine ⟨i, h1, fun j => ?_⟩
  have e : j = j % k + j / k * k := by rw [Nat.mul_comm]; exact (Nat.mod_add_div j k).symm
  rw [e, per]
  exact h2 _ (Nat.mod_lt _ hk)
/-- the steps of f as a path -/
theorem iter_pth {f : Int → Int} {R : Int → Int → Prop} (p : Int) : ∀ k, (∀ j, R (iter f j p) (iter f (j + 1) p)) → Pth R p (iter f (k + 1) p)
  | 0, h => .one (h 0)
  | k + 1, h => by
    have := iter_pth p k h
    refine this.trans (.one ?_)
    have z := h (k + 1)
    exact z
theorem ring_pth {f : Int → Int} {R : Int → Int → Prop} {q : Int} {k : Nat} (hk : 0 < k) (hq : iter f k q = q) (i : Nat) (h : ∀ j, R (iter f j q) (iter f (j + 1) q)) : Pth R (iter f i q) (iter f i q) := by
  have h2 := iter_pth (f := f) (R := R) (iter f i q) (k - 1) (fun j => by
    rw [← iter_add, ← iter_add]
    exact h (i + j))
  have e : k - 1 + 1 = k := by omega
  rw [e, ← iter_add, Nat.add_comm, iter_add, hq] at h2
  exact h2
/-- from no place both players win -/
theorem not_both {G : Gm} {W : Int → Prop} {L : List Int} (hL : ∀ p, W p → p ∈ L) {S0 S1 : Int → Prop} {st0 st1 : Int → Option Int} (f0 : Flw G W 0 S0 st0) (f1 : Flw G W 1 S1 st1) (ho : ∀ p, W p → G.own p = 0 ∨ G.own p = 1) (hw : ∀ p, W p → ∀ q, q ∈ G.ways p → W q) (p : Int) (h0 : S0 p) (h1 : S1 p) : False := by
  let f : Int → Int := fun p => if G.own p = 0 then (st0 p).getD 0 else (st1 p).getD 0
  have stp : ∀ p, S0 p → S1 p → S0 (f p) ∧ S1 (f p) ∧ Edge G W 0 st0 p (f p) ∧ Edge G W 1 st1 p (f p) := by
    intro p h0 h1
    have hW := f0.sub p h0
    by_cases c : G.own p = 0
    · obtain ⟨q, e1, e2, e3⟩ := f0.mine p h0 c
      have ef : f p = q := by
        show (if G.own p = 0 then _ else _) = q
        rw [if_pos c, e1]
        rfl
      have hq := hw p hW q e2
      rw [ef]
      exact ⟨e3, f1.his p h1 (by omega) q e2 hq, .inl ⟨c, e1⟩, .inr ⟨by omega, e2, hq⟩⟩
    · have c1 : G.own p = 1 := (ho p hW).resolve_left c
      obtain ⟨q, e1, e2, e3⟩ := f1.mine p h1 c1
      have ef : f p = q := by
        show (if G.own p = 0 then _ else _) = q
        rw [if_neg c, e1]
        rfl
      have hq := hw p hW q e2
      rw [ef]
      exact ⟨f0.his p h0 c q e2 hq, e3, .inr ⟨c, e2, hq⟩, .inl ⟨c1, e1⟩⟩
  have inv : ∀ p, (S0 p ∧ S1 p) → (S0 (f p) ∧ S1 (f p)) := fun p h => ⟨(stp p h.1 h.2).1, (stp p h.1 h.2).2.1⟩
  obtain ⟨i, j, hij, hj, e⟩ := meets (I := fun p => S0 p ∧ S1 p) inv (fun p h => hL p (f0.sub p h.1)) ⟨h0, h1⟩
  have hk : 0 < j - i := by omega
  have hq : iter f (j - i) (iter f i p) = iter f i p := by
    rw [← iter_add, e]
    congr 1
    omega
  have hS := fun m => iter_inv (I := fun p => S0 p ∧ S1 p) inv m _ (iter_inv (I := fun p => S0 p ∧ S1 p) inv i p ⟨h0, h1⟩)
  obtain ⟨m, _, top⟩ := ring_top G.num hk hq
  have sm := hS m
  have par : G.num (iter f m (iter f i p)) % 2 = 0 ∨ G.num (iter f m (iter f i p)) % 2 = 1 := by omega
  rcases par with par | par
  · refine f1.ring _ sm.2 (by omega) (ring_pth hk hq m fun n => ?_)
    have a := hS n
    have b := hS (n + 1)
    have c := (stp _ a.1 a.2).2.2.2
    rw [← iter_succ f] at c
    exact ⟨a.2, b.2, top n, top (n + 1), c⟩
  · refine f0.ring _ sm.1 (by omega) (ring_pth hk hq m fun n => ?_)
    have a := hS n
    have b := hS (n + 1)
    have c := (stp _ a.1 a.2).2.2.1
    rw [← iter_succ f] at c
    exact ⟨a.1, b.1, top n, top (n + 1), c⟩
end Zk
namespace Zk
/-! measures as numbers -/
abbrev CS := List (Int × Int)
def wt : CS → Nat
  | [] => 1
  | (_, c) :: r => (c.toNat + 1) * wt r
def Wj (j : Int) : CS → Nat
  | [] => 1
  | (o, c) :: r => if o < j then wt ((o, c) :: r) else Wj j r
def valD (d : Int → Nat) : CS → Nat
  | [] => 0
  | (o, _) :: r => d o * wt r + valD d r
theorem wt_pos : ∀ cs : CS, 0 < wt cs
  | [] => Nat.one_pos
  | (_, c) :: r => Nat.mul_pos (Nat.succ_pos _) (wt_pos r)
theorem Wj_pos (j : Int) : ∀ cs : CS, 0 < Wj j cs
  | [] => Nat.one_pos
  | (o, c) :: r => by
    show 0 < if o < j then _ else _
    split
    · exact wt_pos _
    · exact Wj_pos j r
theorem Wj_dvd (j : Int) : ∀ cs : CS, Wj j cs ∣ wt cs
  | [] => Nat.dvd_refl _
  | (o, c) :: r => by
    show (if o < j then _ else _) ∣ _
    split
    · exact Nat.dvd_refl _
    · exact Nat.dvd_trans (Wj_dvd j r) (Nat.dvd_mul_left _ _)
theorem Wj_mono {j k : Int} (h : j ≤ k) : ∀ cs : CS, Wj j cs ∣ Wj k cs
  | [] => Nat.dvd_refl _
  | (o, c) :: r => by
    show (if o < j then _ else _) ∣ (if o < k then _ else _)
    by_cases h1 : o < j
    · rw [if_pos h1, if_pos (by omega)]
      exact Nat.dvd_refl _
    · rw [if_neg h1]
      split
      · exact Nat.dvd_trans (Wj_dvd j r) (Nat.dvd_mul_left _ _)
      · exact Wj_mono h r
/-- what a place of number j wants -/
def bet (cs : CS) (j : Int) (x : Nat) : Nat := if x = wt cs then wt cs else (x / Wj j cs + (j % 2).toNat) * Wj j cs
theorem bet_top (cs : CS) (j : Int) : bet cs j (wt cs) = wt cs := if_pos rfl
theorem bet_le {cs : CS} {j : Int} {x : Nat} (h : x ≤ wt cs) : bet cs j x ≤ wt cs := by
  unfold bet
  split
  · exact Nat.le_refl _
  · next hn =>
    obtain ⟨e, he⟩ := Wj_dvd j cs
    have hx : x < Wj j cs * e := by omega
    have h1 : x / Wj j cs < e := Nat.div_lt_of_lt_mul hx
    have h2 : (j % 2).toNat ≤ 1 := by omega
    rw [he, Nat.mul_comm]
    exact Nat.mul_le_mul_left _ (by omega)
theorem bet_mono {cs : CS} {j : Int} {x y : Nat} (h : x ≤ y) (hy : y ≤ wt cs) : bet cs j x ≤ bet cs j y := by
  by_cases e : y = wt cs
  · subst e
    rw [bet_top]
    exact bet_le h
  · have e2 : x ≠ wt cs := by omega
    unfold bet
    rw [if_neg e, if_neg e2]
    exact Nat.mul_le_mul_right _ (Nat.add_le_add_right (Nat.div_le_div_right h) _)
/-- Dec: the odd numbers fall -/
def Dec (cs : CS) : Prop := cs.Pairwise fun a b => b.1 < a.1
theorem valD_lt {d : Int → Nat} : ∀ {cs : CS}, (∀ oc ∈ cs, d oc.1 ≤ oc.2.toNat) → valD d cs < wt cs
  | [], _ => Nat.one_pos
  | (o, c) :: r, h => by
    have h1 := h _ List.mem_cons_self
    have h2 := valD_lt (cs := r) fun x hx => h x (List.mem_cons_of_mem _ hx)
    show d o * wt r + valD d r < (c.toNat + 1) * wt r
    have h3 : d o * wt r ≤ c.toNat * wt r := Nat.mul_le_mul_right _ h1
    rw [Nat.add_mul]
    omega
def bump (j : Int) (d : Int → Nat) : Int → Nat := fun k => if k < j then 0 else if k = j then d k + (j % 2).toNat else d k
theorem valD_zero {d : Int → Nat} : ∀ {cs : CS}, (∀ oc ∈ cs, d oc.1 = 0) → valD d cs = 0
  | [], _ => rfl
  | (o, c) :: r, h => by
    show d o * wt r + valD d r = 0
    rw [valD_zero fun x hx => h x (List.mem_cons_of_mem _ hx)]
    have : d o = 0 := h _ List.mem_cons_self
    rw [this]; omega
theorem valD_bump (j : Int) {d : Int → Nat} : ∀ {cs : CS}, Dec cs → (∀ oc ∈ cs, d oc.1 ≤ oc.2.toNat) → valD (bump j d) cs = valD d cs / Wj j cs * Wj j cs + (if j ∈ cs.map (·.1) then (j % 2).toNat * Wj j cs else 0)
  | [], _, _ => by simp [valD]
  | (o, c) :: r, hd, h => by
    obtain ⟨hd1, hd2⟩ := List.pairwise_cons.mp hd
    have hr := fun x hx => h x (List.mem_cons_of_mem (o, c) hx)
    by_cases ho : o < j
    · have eW : Wj j ((o, c) :: r) = wt ((o, c) :: r) := if_pos ho
      have small : ∀ oc ∈ (o, c) :: r, oc.1 < j := by
        intro oc hoc
        rcases List.mem_cons.mp hoc with rfl | hm
        · exact ho
        · have := hd1 _ hm
          simp only at this
          omega
      rw [valD_zero (fun oc hoc => if_pos (small oc hoc)), eW, Nat.div_eq_of_lt (valD_lt h), if_neg]
      · omega
      · intro hm
        obtain ⟨oc, h1, h2⟩ := List.mem_map.mp hm
        have := small oc h1
        omega
    · have eW : Wj j ((o, c) :: r) = Wj j r := if_neg ho
      rw [eW]
      show bump j d o * wt r + valD (bump j d) r = (d o * wt r + valD d r) / Wj j r * Wj j r + _
      rw [valD_bump j hd2 hr]
      obtain ⟨e, he⟩ := Wj_dvd j r
      have e1 : (d o * wt r + valD d r) / Wj j r = d o * e + valD d r / Wj j r := by
        rw [he, ← Nat.mul_assoc, Nat.mul_comm (d o), Nat.mul_assoc, Nat.mul_add_div (Wj_pos j r)]
      have e2 : d o * wt r = d o * e * Wj j r := by rw [he, Nat.mul_assoc, Nat.mul_comm e]
      by_cases hoj : o = j
      · subst hoj
        have small : ∀ oc ∈ r, oc.1 < o := fun oc hoc => hd1 oc hoc
        have eW2 : Wj o r = wt r := by
          cases r with
          | nil => rfl
          | cons a r' =>
            obtain ⟨a1, a2⟩ := a
            exact if_pos (small (a1, a2) List.mem_cons_self)
        rw [if_neg (by
          intro hm
          obtain ⟨oc, h1, h2⟩ := List.mem_map.mp hm
          have := small oc h1
          omega), if_pos (by simp), e1]
        have eb : bump o d o = d o + (o % 2).toNat := by simp [bump]
        rw [eb, Nat.add_mul, Nat.add_mul, e2, eW2]
        omega
      · have eb : bump j d o = d o := by
          unfold bump
          rw [if_neg ho, if_neg hoj]
        rw [eb, e1, Nat.add_mul, e2]
        have ei : (j ∈ List.map (·.1) ((o, c) :: r)) ↔ (j ∈ List.map (·.1) r) := by
          simp only [List.map_cons, List.mem_cons]
          constructor
          · rintro (h | h)
            · exact absurd h.symm hoj
            · exact h
          · exact .inr
        simp only [ei]
        omega
section
variable (G : Gm) (W : Int → Prop) (cs : CS)
/-- what a place is to have, by its ways -/
def Lft (v : Int → Nat) (p : Int) (x : Nat) : Prop :=
  (∃ w, w ∈ G.ways p ∧ x = bet cs (G.num p) (v w)) ∧ (G.own p = 0 → ∀ w ∈ G.ways p, x ≤ bet cs (G.num p) (v w)) ∧ (G.own p ≠ 0 → ∀ w ∈ G.ways p, bet cs (G.num p) (v w) ≤ x)
def upd (v : Int → Nat) (p : Int) (x : Nat) : Int → Nat := fun q => if q = p then x else v q
inductive Rch : (Int → Nat) → Prop
  | zero : Rch fun _ => 0
  | step {v : Int → Nat} {p : Int} {x : Nat} : Rch v → W p → Lft G cs v p x → Rch (upd v p x)
def Pre (u : Int → Nat) : Prop := ∀ p, W p → (u p ≤ wt cs) ∧ ∀ x, Lft G cs u p x → x ≤ u p
end
section
variable {G : Gm} {W : Int → Prop} {cs : CS}
theorem Lft.le {v u : Int → Nat} {p : Int} {x y : Nat} (a : Lft G cs v p x) (b : Lft G cs u p y) (h : ∀ w ∈ G.ways p, v w ≤ u w ∧ u w ≤ wt cs) : x ≤ y := by
  obtain ⟨⟨w, hw, rfl⟩, a2, a3⟩ := a
  obtain ⟨⟨z, hz, rfl⟩, b2, b3⟩ := b
  by_cases ho : G.own p = 0
  · exact Nat.le_trans (a2 ho z hz) (bet_mono (h z hz).1 (h z hz).2)
  · exact Nat.le_trans (bet_mono (h w hw).1 (h w hw).2) (b3 ho w hw)
theorem Lft.ex (v : Int → Nat) {p : Int} (h : G.ways p ≠ []) : ∃ x, Lft G cs v p x := by
  have key : ∀ (f : Int → Nat) (l : List Int), l ≠ [] → (∃ w, w ∈ l ∧ ∀ z ∈ l, f w ≤ f z) ∧ ∃ w, w ∈ l ∧ ∀ z ∈ l, f z ≤ f w := by
    intro f l
    induction l with
    | nil => intro h; exact absurd rfl h
    | cons a r ih =>
      intro _
      by_cases hr : r = []
      · subst hr
        exact ⟨⟨a, List.mem_cons_self, fun z hz => by rw [List.mem_singleton.mp hz]; exact Nat.le_refl _⟩, ⟨a, List.mem_cons_self, fun z hz => by rw [List.mem_singleton.mp hz]; exact Nat.le_refl _⟩⟩
      · obtain ⟨⟨w1, h1, h2⟩, w2, h3, h4⟩ := ih hr
        constructor
        · by_cases c : f a ≤ f w1
          · exact ⟨a, List.mem_cons_self, fun z hz => by
              rcases List.mem_cons.mp hz with rfl | hz
              · exact Nat.le_refl _
              · exact Nat.le_trans c (h2 z hz)⟩
          · exact ⟨w1, List.mem_cons_of_mem _ h1, fun z hz => by
              rcases List.mem_cons.mp hz with rfl | hz
              · omega
              · exact h2 z hz⟩
        · by_cases c : f w2 ≤ f a
          · exact ⟨a, List.mem_cons_self, fun z hz => by
              rcases List.mem_cons.mp hz with rfl | hz
              · exact Nat.le_refl _
              · exact Nat.le_trans (h4 z hz) c⟩
          · exact ⟨w2, List.mem_cons_of_mem _ h3, fun z hz => by
              rcases List.mem_cons.mp hz with rfl | hz
              · omega
              · exact h4 z hz⟩
  obtain ⟨⟨w1, h1, h2⟩, w2, h3, h4⟩ := key (fun w => bet cs (G.num p) (v w)) (G.ways p) h
  by_cases ho : G.own p = 0
  · exact ⟨_, ⟨w1, h1, rfl⟩, fun _ => h2, fun h => absurd ho h⟩
  · exact ⟨_, ⟨w2, h3, rfl⟩, fun h => absurd h ho, fun _ => h4⟩
theorem Rch.le (hw : ∀ p, W p → ∀ q, q ∈ G.ways p → W q) (hne : ∀ p, W p → G.ways p ≠ []) {v u : Int → Nat} (r : Rch G W cs v) (hu : Pre G W cs u) : ∀ p, W p → v p ≤ u p := by
  induction r with
  | zero => exact fun _ _ => Nat.zero_le _
  | @step v p x r hp l ih =>
    intro q hq
    show (if q = p then x else v q) ≤ u q
    split
    · next e =>
      subst e
      obtain ⟨y, hy⟩ := Lft.ex (cs := cs) u (hne q hp)
      exact Nat.le_trans (l.le hy fun w hww => ⟨ih w (hw q hp w hww), (hu w (hw q hp w hww)).1⟩) ((hu q hp).2 y hy)
    · exact ih q hq
theorem Rch.eq (hw : ∀ p, W p → ∀ q, q ∈ G.ways p → W q) (hne : ∀ p, W p → G.ways p ≠ []) {v u : Int → Nat} (r : Rch G W cs v) (hv : Pre G W cs v) (s : Rch G W cs u) (hu : Pre G W cs u) {p : Int} (hp : W p) : v p = u p :=
  Nat.le_antisymm (r.le hw hne hu p hp) (s.le hw hne hv p hp)
/-- what a strategy of 0 lets be heard -/
inductive Hear (G : Gm) (W S : Int → Prop) (st : Int → Option Int) : Int → (Int → Nat) → Prop
  | zero (p : Int) : S p → Hear G W S st p fun _ => 0
  | step {p q : Int} {d : Int → Nat} : S p → S q → Edge G W 0 st p q → Hear G W S st q d → Hear G W S st p (bump (G.num p) d)
theorem Hear.occ {S : Int → Prop} {st : Int → Option Int} (f : Flw G W 0 S st) {p : Int} {d : Int → Nat} (h : Hear G W S st p d) (k : Int) (hk : k % 2 = 1) :
    ∃ l : List Int, l.length = d k ∧ l.Nodup ∧ ∀ x ∈ l, S x ∧ G.num x = k ∧ (x = p ∨ Pth (Rel G W 0 S st k) p x) := by
  induction h with
  | zero p hp => exact ⟨[], rfl, List.nodup_nil, fun x hx => by cases hx⟩
  | @step p q d hp hq e h ih =>
    obtain ⟨l, h1, h2, h3⟩ := ih
    by_cases c1 : k < G.num p
    · exact ⟨[], by simp [bump, c1], List.nodup_nil, fun x hx => by cases hx⟩
    · -- q's number is no greater, where there is something to be heard
      have qk : ∀ x ∈ l, G.num q ≤ k := by
        intro x hx
        obtain ⟨_, h5, h6⟩ := h3 x hx
        rcases h6 with rfl | h6
        · omega
        · obtain ⟨c, hc⟩ := h6.head
          exact hc.2.2.1
      have pth : ∀ x ∈ l, Pth (Rel G W 0 S st k) p x := by
        intro x hx
        have hr : Rel G W 0 S st k p q := ⟨hp, hq, by omega, qk x hx, e⟩
        obtain ⟨_, _, h6⟩ := h3 x hx
        rcases h6 with rfl | h6
        · exact .one hr
        · exact .cons hr h6
      by_cases c2 : k = G.num p
      · refine ⟨p :: l, ?_, List.nodup_cons.mpr ⟨fun hm => ?_, h2⟩, fun x hx => ?_⟩
        · have : bump (G.num p) d k = d k + (G.num p % 2).toNat := by
            unfold bump
            rw [if_neg c1, if_pos c2]
          rw [List.length_cons, h1, this, ← c2, hk]
          rfl
        · have := pth p hm
          rw [c2] at this
          exact f.ring p hp (by omega) this
        · rcases List.mem_cons.mp hx with rfl | hx
          · exact ⟨hp, c2.symm, .inl rfl⟩
          · exact ⟨(h3 x hx).1, (h3 x hx).2.1, .inr (pth x hx)⟩
      · refine ⟨l, ?_, h2, fun x hx => ⟨(h3 x hx).1, (h3 x hx).2.1, .inr (pth x hx)⟩⟩
        have : bump (G.num p) d k = d k := by
          unfold bump
          rw [if_neg c1, if_neg c2]
        rw [h1, this]
theorem Hear.le {S : Int → Prop} {st : Int → Option Int} {L : List Int} (f : Flw G W 0 S st) (hL : ∀ p, W p → p ∈ L) (hc : ∀ oc ∈ cs, oc.1 % 2 = 1 ∧ oc.2.toNat = (L.filter fun p => decide (G.num p = oc.1)).length) {p : Int} {d : Int → Nat} (h : Hear G W S st p d) : ∀ oc ∈ cs, d oc.1 ≤ oc.2.toNat := by
  intro oc hoc
  obtain ⟨h1, h2⟩ := hc oc hoc
  obtain ⟨l, h3, h4, h5⟩ := h.occ f oc.1 h1
  rw [h2, ← h3]
  refine nodup_len _ _ h4 fun x hx => List.mem_filter.mpr ⟨hL x (f.sub x (h5 x hx).1), by simp [(h5 x hx).2.1]⟩
/-- where 0 has steps without a flaw the measures stay beneath the top -/
theorem Rch.beneath {S : Int → Prop} {st : Int → Option Int} {L : List Int} (f : Flw G W 0 S st) (hL : ∀ p, W p → p ∈ L) (hw : ∀ p, W p → ∀ q, q ∈ G.ways p → W q) (dec : Dec cs) (hc : ∀ oc ∈ cs, oc.1 % 2 = 1 ∧ oc.2.toNat = (L.filter fun p => decide (G.num p = oc.1)).length) (hin : ∀ p, W p → G.num p % 2 = 1 → G.num p ∈ cs.map (·.1))
    {v : Int → Nat} (r : Rch G W cs v) : ∀ p, S p → ∃ d, Hear G W S st p d ∧ v p ≤ valD d cs := by
  induction r with
  | zero => exact fun p hp => ⟨_, .zero p hp, Nat.zero_le _⟩
  | @step v p x r hp l ih =>
    intro q hq
    by_cases e : q = p
    · subst e
      obtain ⟨⟨w, hw1, hw2⟩, l2, l3⟩ := l
      -- a way by which it is heard
      have ex : ∃ z, S z ∧ Edge G W 0 st q z ∧ x ≤ bet cs (G.num q) (v z) := by
        by_cases ho : G.own q = 0
        · obtain ⟨z, z1, z2, z3⟩ := f.mine q hq ho
          exact ⟨z, z3, .inl ⟨ho, z1⟩, l2 ho z z2⟩
        · exact ⟨w, f.his q hq ho w hw1 (hw q hp w hw1), .inr ⟨ho, hw1, hw q hp w hw1⟩, by rw [hw2]; exact Nat.le_refl _⟩
      obtain ⟨z, z1, z2, z3⟩ := ex
      obtain ⟨d, d1, d2⟩ := ih z z1
      have hd := d1.le f hL hc
      refine ⟨_, .step hq z1 z2 d1, ?_⟩
      show (if q = q then x else v q) ≤ _
      rw [if_pos rfl]
      refine Nat.le_trans z3 (Nat.le_trans (bet_mono d2 (Nat.le_of_lt (valD_lt hd))) ?_)
      have hlt := valD_lt hd
      rw [valD_bump _ dec hd]
      unfold bet
      rw [if_neg (by omega), Nat.add_mul]
      by_cases hodd : G.num q % 2 = 1
      · rw [if_pos (hin q hp hodd)]
        exact Nat.le_refl _
      · have : (G.num q % 2).toNat = 0 := by omega
        rw [this]
        omega
    · obtain ⟨d, d1, d2⟩ := ih q hq
      refine ⟨d, d1, ?_⟩
      show (if q = p then x else v q) ≤ _
      rw [if_neg e]
      exact d2
theorem Rch.lt {S : Int → Prop} {st : Int → Option Int} {L : List Int} (f : Flw G W 0 S st) (hL : ∀ p, W p → p ∈ L) (hw : ∀ p, W p → ∀ q, q ∈ G.ways p → W q) (dec : Dec cs) (hc : ∀ oc ∈ cs, oc.1 % 2 = 1 ∧ oc.2.toNat = (L.filter fun p => decide (G.num p = oc.1)).length) (hin : ∀ p, W p → G.num p % 2 = 1 → G.num p ∈ cs.map (·.1))
    {v : Int → Nat} (r : Rch G W cs v) {p : Int} (hp : S p) : v p < wt cs := by
  obtain ⟨d, d1, d2⟩ := r.beneath f hL hw dec hc hin p hp
  exact Nat.lt_of_le_of_lt d2 (valD_lt (d1.le f hL hc))
/-- .. and where they are beneath the top 0 has steps without a flaw -/
theorem Pre.flw {v : Int → Nat} (h : Pre G W cs v) (hw : ∀ p, W p → ∀ q, q ∈ G.ways p → W q) (hne : ∀ p, W p → G.ways p ≠ []) : ∃ st, Flw G W 0 (fun p => W p ∧ v p < wt cs) st := by
  classical
  let st : Int → Option Int := fun p => if hh : ∃ w, w ∈ G.ways p ∧ bet cs (G.num p) (v w) ≤ v p then some (Classical.choose hh) else none
  have bel : ∀ j y x, x < wt cs → bet cs j y ≤ x → y ≤ wt cs → y < wt cs := by
    intro j y x hx hb hy
    by_cases e : y = wt cs
    · subst e
      rw [bet_top] at hb
      omega
    · omega
  have mine : ∀ p, W p → v p < wt cs → G.own p = 0 → ∃ q, st p = some q ∧ q ∈ G.ways p ∧ bet cs (G.num p) (v q) ≤ v p := by
    intro p hp hv ho
    obtain ⟨x, hx⟩ := Lft.ex (cs := cs) v (hne p hp)
    have h1 := (h p hp).2 x hx
    obtain ⟨⟨w, w1, w2⟩, _, _⟩ := hx
    have hh : ∃ w, w ∈ G.ways p ∧ bet cs (G.num p) (v w) ≤ v p := ⟨w, w1, by omega⟩
    refine ⟨Classical.choose hh, ?_, (Classical.choose_spec hh).1, (Classical.choose_spec hh).2⟩
    show (if hh : _ then _ else _) = _
    rw [dif_pos hh]
  have his : ∀ p, W p → G.own p ≠ 0 → ∀ q, q ∈ G.ways p → bet cs (G.num p) (v q) ≤ v p := by
    intro p hp ho q hq
    obtain ⟨x, hx⟩ := Lft.ex (cs := cs) v (hne p hp)
    exact Nat.le_trans (hx.2.2 ho q hq) ((h p hp).2 x hx)
  have edge : ∀ x y, W x → v x < wt cs → Edge G W 0 st x y → bet cs (G.num x) (v y) ≤ v x := by
    rintro x y hx hv (⟨ho, hs⟩ | ⟨ho, hq, _⟩)
    · obtain ⟨q, q1, q2, q3⟩ := mine x hx hv ho
      rw [hs] at q1
      cases q1
      exact q3
    · exact his x hx ho y hq
  refine ⟨st, fun p hp => hp.1, fun p hp ho => ?_, fun p hp ho q hq hq2 => ⟨hq2, ?_⟩, fun p hp hodd hc => ?_⟩
  · obtain ⟨q, q1, q2, q3⟩ := mine p hp.1 hp.2 ho
    have hq := hw p hp.1 q q2
    exact ⟨q, q1, q2, hq, bel _ _ _ hp.2 q3 (h q hq).1⟩
  · exact bel _ _ _ hp.2 (his p hp.1 ho q hq) (h q hq2).1
  · -- heights by the greatest number
    have down : ∀ x y, Rel G W 0 (fun p => W p ∧ v p < wt cs) st (G.num p) x y → v y / Wj (G.num p) cs ≤ v x / Wj (G.num p) cs ∧ (G.num x = G.num p → v y / Wj (G.num p) cs < v x / Wj (G.num p) cs) := by
      intro x y ⟨hx, hy, n1, n2, e⟩
      have hb := edge x y hx.1 hx.2 e
      unfold bet at hb
      rw [if_neg (by have := hy.2; omega)] at hb
      constructor
      · obtain ⟨e1, he⟩ := Wj_mono n1 cs
        rw [he, ← Nat.div_div_eq_div_mul, ← Nat.div_div_eq_div_mul]
        refine Nat.div_le_div_right ?_
        rw [Nat.le_div_iff_mul_le (Wj_pos _ _)]
        refine Nat.le_trans (Nat.mul_le_mul_right _ (Nat.le_add_right _ _)) hb
      · intro e
        rw [e] at hb
        have e1 : (G.num p % 2).toNat = 1 := by omega
        rw [e1, ← Nat.le_div_iff_mul_le (Wj_pos _ _)] at hb
        exact hb
    have mono : ∀ {a b}, Pth (Rel G W 0 (fun p => W p ∧ v p < wt cs) st (G.num p)) a b → v b / Wj (G.num p) cs ≤ v a / Wj (G.num p) cs := by
      intro a b h
      induction h with
      | one r => exact (down _ _ r).1
      | cons r _ ih => exact Nat.le_trans ih (down _ _ r).1
    cases hc with
    | one r => exact absurd ((down _ _ r).2 rfl) (Nat.lt_irrefl _)
    | cons r h2 => exact absurd (Nat.lt_of_lt_of_le ((down _ _ r).2 rfl) (mono h2)) (Nat.lt_irrefl _)
end
end Zk
namespace Zk
/-! measures as lists -/
abbrev Ms := Option (List Int)
def valL : CS → List Int → Nat
  | (_, _) :: r, a :: x => a.toNat * wt r + valL r x
  | _, _ => 0
def OkL : CS → List Int → Prop
  | [], [] => True
  | (_, c) :: r, a :: x => 0 ≤ a ∧ a ≤ c ∧ OkL r x
  | _, _ => False
def code (cs : CS) : Ms → Nat
  | none => wt cs
  | some x => valL cs x
def OkM (cs : CS) : Ms → Prop
  | none => True
  | some x => OkL cs x
theorem OkL.len : ∀ {cs : CS} {x : List Int}, OkL cs x → x.length = cs.length
  | [], [], _ => rfl
  | (_, _) :: r, a :: x, h => by
    have := OkL.len (cs := r) h.2.2
    simp [this]
  | [], _ :: _, h => h.elim
  | (_, _) :: _, [], h => h.elim
theorem valL_lt : ∀ {cs : CS} {x : List Int}, OkL cs x → valL cs x < wt cs
  | [], [], _ => Nat.one_pos
  | (_, c) :: r, a :: x, h => by
    have h2 := valL_lt (cs := r) h.2.2
    have h3 : a.toNat * wt r ≤ c.toNat * wt r := Nat.mul_le_mul_right _ (by have := h.2.1; omega)
    show a.toNat * wt r + valL r x < (c.toNat + 1) * wt r
    rw [Nat.add_mul]
    omega
  | [], _ :: _, h => h.elim
  | (_, _) :: _, [], h => h.elim
theorem valL_lex : ∀ {cs : CS} {x y : List Int}, OkL cs x → OkL cs y → (x < y ↔ valL cs x < valL cs y)
  | [], [], [], _, _ => by simp [valL]
  | (_, c) :: r, a :: x, b :: y, h, k => by
    have ih := valL_lex (cs := r) h.2.2 k.2.2
    have hx := valL_lt h.2.2
    have hy := valL_lt k.2.2
    rw [List.cons_lt_cons_iff]
    show _ ↔ a.toNat * wt r + valL r x < b.toNat * wt r + valL r y
    have ha := h.1
    have hb := k.1
    rcases Int.lt_trichotomy a b with e | e | e
    · have : (a.toNat + 1) * wt r ≤ b.toNat * wt r := Nat.mul_le_mul_right _ (by omega)
      rw [Nat.add_mul] at this
      constructor
      · intro _; omega
      · intro _; exact .inl e
    · subst e
      rw [ih]
      constructor
      · rintro (h | ⟨_, h⟩)
        · omega
        · omega
      · intro h
        exact .inr ⟨rfl, by omega⟩
    · have : (b.toNat + 1) * wt r ≤ a.toNat * wt r := Nat.mul_le_mul_right _ (by omega)
      rw [Nat.add_mul] at this
      constructor
      · rintro (h | ⟨h, _⟩) <;> omega
      · intro h; omega
  | [], _ :: _, _, h, _ => h.elim
  | [], [], _ :: _, _, h => h.elim
  | (_, _) :: _, [], _, h, _ => h.elim
  | (_, _) :: _, _ :: _, [], _, h => h.elim
theorem valL_inj : ∀ {cs : CS} {x y : List Int}, OkL cs x → OkL cs y → valL cs x = valL cs y → x = y
  | [], [], [], _, _, _ => rfl
  | (_, c) :: r, a :: x, b :: y, h, k, e => by
    have hx := valL_lt h.2.2
    have hy := valL_lt k.2.2
    have e' : a.toNat * wt r + valL r x = b.toNat * wt r + valL r y := e
    have ha := h.1
    have hb := k.1
    rcases Int.lt_trichotomy a b with q | q | q
    · have : (a.toNat + 1) * wt r ≤ b.toNat * wt r := Nat.mul_le_mul_right _ (by omega)
      rw [Nat.add_mul] at this
      omega
    · subst q
      rw [valL_inj (cs := r) h.2.2 k.2.2 (by omega)]
    · have : (b.toNat + 1) * wt r ≤ a.toNat * wt r := Nat.mul_le_mul_right _ (by omega)
      rw [Nat.add_mul] at this
      omega
  | [], _ :: _, _, h, _, _ => h.elim
  | [], [], _ :: _, _, h, _ => h.elim
  | (_, _) :: _, [], _, h, _, _ => h.elim
  | (_, _) :: _, _ :: _, [], _, h, _ => h.elim
theorem code_le {cs : CS} {m : Ms} (h : OkM cs m) : code cs m ≤ wt cs := by
  cases m with
  | none => exact Nat.le_refl _
  | some x => exact Nat.le_of_lt (valL_lt h)
theorem code_none {cs : CS} {m : Ms} (h : OkM cs m) : m = none ↔ ¬ code cs m < wt cs := by
  cases m with
  | none =>
    constructor
    · intro _
      exact Nat.lt_irrefl _
    · intro _
      rfl
  | some x =>
    constructor
    · intro e
      cases e
    · intro e
      exact absurd (valL_lt h) e
theorem code_inj {cs : CS} {a b : Ms} (ha : OkM cs a) (hb : OkM cs b) (e : code cs a = code cs b) : a = b := by
  cases a with
  | none =>
    cases b with
    | none => rfl
    | some y =>
      have := valL_lt hb
      have e' : wt cs = valL cs y := e
      omega
  | some x =>
    cases b with
    | none =>
      have := valL_lt ha
      have e' : valL cs x = wt cs := e
      omega
    | some y => rw [valL_inj ha hb e]
/-- is_more -/
def moreM : Ms → Ms → Bool
  | none, none => false
  | none, some _ => true
  | some _, none => false
  | some x, some y => decide (y < x)
theorem moreM_code {cs : CS} {a b : Ms} (ha : OkM cs a) (hb : OkM cs b) : moreM a b = decide (code cs b < code cs a) := by
  cases a with
  | none =>
    cases b with
    | none => simp [moreM, code]
    | some y => simp [moreM, code, valL_lt hb]
  | some x =>
    cases b with
    | none =>
      have := valL_lt ha
      have : ¬ wt cs < valL cs x := by omega
      simp [moreM, code, this]
    | some y => exact decide_eq_decide.mpr (valL_lex hb ha)
/-! behind -/
def many (cs : CS) (j : Int) : Nat := (cs.filter fun oc => decide (j ≤ oc.1)).length
def truL (j : Int) : CS → List Int → List Int
  | (o, _) :: r, a :: x => (if j ≤ o then a else 0) :: truL j r x
  | _, _ => []
theorem many_le (cs : CS) (j : Int) : many cs j ≤ cs.length := List.length_filter_le _ _
theorem many_small {cs : CS} {j : Int} (h : ∀ oc ∈ cs, oc.1 < j) : many cs j = 0 := by
  unfold many
  rw [List.length_eq_zero_iff, List.filter_eq_nil_iff]
  intro oc hoc
  have := h oc hoc
  simp
  omega
theorem small_of {o c : Int} {r : CS} {j : Int} (hd : Dec ((o, c) :: r)) (h : o < j) : ∀ oc ∈ (o, c) :: r, oc.1 < j := by
  intro oc hoc
  rcases List.mem_cons.mp hoc with rfl | hm
  · exact h
  · have := (List.pairwise_cons.mp hd).1 _ hm
    simp only at this
    omega
theorem many_cons {o c : Int} {r : CS} {j : Int} (h : ¬ o < j) : many ((o, c) :: r) j = many r j + 1 := by
  unfold many
  rw [List.filter_cons_of_pos (by simp; omega)]
  rfl
theorem Wj_many {j : Int} : ∀ {cs : CS}, Dec cs → Wj j cs = wt (cs.drop (many cs j))
  | [], _ => rfl
  | (o, c) :: r, hd => by
    by_cases h : o < j
    · rw [many_small (small_of hd h)]
      exact if_pos h
    · rw [many_cons h]
      show (if o < j then _ else _) = wt (r.drop (many r j))
      rw [if_neg h]
      exact Wj_many (List.pairwise_cons.mp hd).2
theorem tru_small {j : Int} : ∀ {cs : CS} {x : List Int}, (∀ oc ∈ cs, oc.1 < j) → x.length = cs.length → truL j cs x = List.replicate cs.length 0
  | [], [], _, _ => rfl
  | (o, c) :: r, a :: x, h, hl => by
    have ho : o < j := h (o, c) List.mem_cons_self
    show (if j ≤ o then a else 0) :: truL j r x = 0 :: List.replicate r.length 0
    rw [if_neg (by omega), tru_small (fun oc hoc => h oc (List.mem_cons_of_mem _ hoc)) (by simpa using hl)]
  | [], _ :: _, _, hl => by simp at hl
  | (_, _) :: _, [], _, hl => by simp at hl
theorem tru_take {j : Int} : ∀ {cs : CS} {x : List Int}, Dec cs → x.length = cs.length → truL j cs x = x.take (many cs j) ++ List.replicate (cs.length - many cs j) 0
  | [], [], _, _ => rfl
  | (o, c) :: r, a :: x, hd, hl => by
    by_cases h : o < j
    · rw [many_small (small_of hd h), tru_small (small_of hd h) hl]
      rfl
    · rw [many_cons h]
      show (if j ≤ o then a else 0) :: truL j r x = (a :: x.take (many r j)) ++ List.replicate ((r.length + 1) - (many r j + 1)) 0
      rw [if_pos (by omega), tru_take (List.pairwise_cons.mp hd).2 (by simpa using hl), Nat.add_sub_add_right]
      rfl
  | [], _ :: _, _, hl => by simp at hl
  | (_, _) :: _, [], _, hl => by simp at hl
theorem tru_ok {j : Int} : ∀ {cs : CS} {x : List Int}, OkL cs x → OkL cs (truL j cs x)
  | [], [], _ => trivial
  | (o, c) :: r, a :: x, h => by
    refine ⟨?_, ?_, tru_ok h.2.2⟩
    · have := h.1
      split <;> omega
    · have := h.1
      have := h.2.1
      split <;> omega
  | [], _ :: _, h => h.elim
  | (_, _) :: _, [], h => h.elim
theorem valL_zero : ∀ (cs : CS), valL cs (List.replicate cs.length 0) = 0
  | [] => rfl
  | (o, c) :: r => by
    show (0 : Int).toNat * wt r + valL r (List.replicate r.length 0) = 0
    rw [valL_zero r]
    simp
theorem okL_zero : ∀ {cs : CS}, (∀ oc ∈ cs, 0 ≤ oc.2) → OkL cs (List.replicate cs.length 0)
  | [], _ => trivial
  | (o, c) :: r, h => ⟨Int.le_refl _, h (o, c) List.mem_cons_self, okL_zero fun oc hoc => h oc (List.mem_cons_of_mem _ hoc)⟩
theorem tru_val {j : Int} : ∀ {cs : CS} {x : List Int}, Dec cs → OkL cs x → valL cs (truL j cs x) = valL cs x / Wj j cs * Wj j cs
  | [], [], _, _ => by simp [valL, truL]
  | (o, c) :: r, a :: x, hd, h => by
    by_cases ho : o < j
    · have eW : Wj j ((o, c) :: r) = wt ((o, c) :: r) := if_pos ho
      rw [tru_small (small_of hd ho) h.len, valL_zero, eW, Nat.div_eq_of_lt (valL_lt h), Nat.zero_mul]
    · have eW : Wj j ((o, c) :: r) = Wj j r := if_neg ho
      rw [eW]
      show (if j ≤ o then a else 0).toNat * wt r + valL r (truL j r x) = (a.toNat * wt r + valL r x) / Wj j r * Wj j r
      rw [if_pos (by omega), tru_val (List.pairwise_cons.mp hd).2 h.2.2]
      obtain ⟨e, he⟩ := Wj_dvd j r
      have e1 : (a.toNat * wt r + valL r x) / Wj j r = a.toNat * e + valL r x / Wj j r := by
        rw [he, ← Nat.mul_assoc, Nat.mul_comm a.toNat, Nat.mul_assoc, Nat.mul_add_div (Wj_pos j r)]
      have e2 : a.toNat * wt r = a.toNat * e * Wj j r := by rw [he, Nat.mul_assoc, Nat.mul_comm e]
      rw [e1, Nat.add_mul, e2]
  | [], _ :: _, _, h => h.elim
  | (_, _) :: _, [], _, h => h.elim
def incD (cs : CS) : Nat → List Int → Ms
  | 0, _ => none
  | k + 1, x => if x.getD k 0 < (cs.getD k (0, 0)).2 then some (x.set k (x.getD k 0 + 1)) else incD cs k (x.set k 0)
theorem wt_drop : ∀ {cs : CS} {k : Nat}, k < cs.length → wt (cs.drop k) = ((cs.getD k (0, 0)).2.toNat + 1) * wt (cs.drop (k + 1))
  | [], k, h => by simp at h
  | (o, c) :: r, 0, _ => rfl
  | (o, c) :: r, k + 1, h => wt_drop (cs := r) (k := k) (by simpa using h)
theorem okL_get : ∀ {cs : CS} {x : List Int} {k : Nat}, OkL cs x → k < cs.length → 0 ≤ x.getD k 0 ∧ x.getD k 0 ≤ (cs.getD k (0, 0)).2
  | [], _, k, _, h => by simp at h
  | (o, c) :: r, a :: x, 0, h, _ => ⟨h.1, h.2.1⟩
  | (o, c) :: r, a :: x, k + 1, h, hk => okL_get (cs := r) (k := k) h.2.2 (by simpa using hk)
  | (_, _) :: _, [], _, h, _ => h.elim
theorem okL_set : ∀ {cs : CS} {x : List Int} {k : Nat} {v : Int}, OkL cs x → k < cs.length → 0 ≤ v → v ≤ (cs.getD k (0, 0)).2 → OkL cs (x.set k v)
  | [], _, k, _, _, h, _, _ => by simp at h
  | (o, c) :: r, a :: x, 0, v, h, _, h0, h1 => ⟨h0, h1, h.2.2⟩
  | (o, c) :: r, a :: x, k + 1, v, h, hk, h0, h1 => ⟨h.1, h.2.1, okL_set (cs := r) (k := k) h.2.2 (by simpa using hk) h0 h1⟩
  | (_, _) :: _, [], _, _, h, _, _, _ => h.elim
theorem val_set : ∀ {cs : CS} {x : List Int} {k : Nat} {v : Int}, OkL cs x → k < cs.length → valL cs (x.set k v) + (x.getD k 0).toNat * wt (cs.drop (k + 1)) = valL cs x + v.toNat * wt (cs.drop (k + 1))
  | [], _, k, _, _, h => by simp at h
  | (o, c) :: r, a :: x, 0, v, h, _ => by
    show v.toNat * wt r + valL r x + a.toNat * wt r = a.toNat * wt r + valL r x + v.toNat * wt r
    omega
  | (o, c) :: r, a :: x, k + 1, v, h, hk => by
    have ih := val_set (cs := r) (k := k) (v := v) h.2.2 (by simpa using hk)
    show a.toNat * wt r + valL r (x.set k v) + (x.getD k 0).toNat * wt (r.drop (k + 1)) = a.toNat * wt r + valL r x + v.toNat * wt (r.drop (k + 1))
    omega
  | (_, _) :: _, [], _, _, h, _ => h.elim
theorem inc_code {cs : CS} : ∀ (k : Nat) (x : List Int), OkL cs x → k ≤ cs.length → valL cs x + wt (cs.drop k) ≤ wt cs → OkM cs (incD cs k x) ∧ code cs (incD cs k x) = valL cs x + wt (cs.drop k)
  | 0, x, h, _, hle => by
    refine ⟨trivial, ?_⟩
    show wt cs = valL cs x + wt cs
    have : valL cs x + wt cs ≤ wt cs := hle
    omega
  | k + 1, x, h, hk, hle => by
    have hk' : k < cs.length := by omega
    obtain ⟨g1, g2⟩ := okL_get h hk'
    unfold incD
    by_cases c : x.getD k 0 < (cs.getD k (0, 0)).2
    · rw [if_pos c]
      refine ⟨okL_set h hk' (by omega) (by omega), ?_⟩
      show valL cs (x.set k (x.getD k 0 + 1)) = _
      have := val_set (v := x.getD k 0 + 1) h hk'
      have e : (x.getD k 0 + 1).toNat = (x.getD k 0).toNat + 1 := by omega
      rw [e, Nat.add_mul] at this
      omega
    · rw [if_neg c]
      have hs := val_set (v := 0) h hk'
      have hw := wt_drop hk'
      have e : (cs.getD k (0, 0)).2.toNat = (x.getD k 0).toNat := by omega
      rw [e, Nat.add_mul] at hw
      simp only [Int.toNat_zero, Nat.zero_mul, Nat.add_zero] at hs
      have ih := inc_code k (x.set k 0) (okL_set h hk' (Int.le_refl _) (by omega)) (by omega) (by omega)
      refine ⟨ih.1, ?_⟩
      rw [ih.2]
      omega
def beh (cs : CS) (j : Int) : Ms → Ms
  | none => none
  | some x => if j % 2 = 0 then some (truL j cs x) else incD cs (many cs j) (truL j cs x)
theorem beh_code {cs : CS} (hd : Dec cs) (j : Int) {m : Ms} (h : OkM cs m) : OkM cs (beh cs j m) ∧ code cs (beh cs j m) = bet cs j (code cs m) := by
  cases m with
  | none => exact ⟨trivial, (bet_top cs j).symm⟩
  | some x =>
    have hx : OkL cs x := h
    have hlt := valL_lt hx
    have eb : bet cs j (code cs (some x)) = (valL cs x / Wj j cs + (j % 2).toNat) * Wj j cs := if_neg (Nat.ne_of_lt hlt)
    rw [eb]
    show OkM cs (if _ then _ else _) ∧ code cs (if _ then _ else _) = _
    by_cases c : j % 2 = 0
    · rw [if_pos c]
      refine ⟨tru_ok hx, ?_⟩
      show valL cs _ = _
      rw [tru_val hd hx, c]
      rfl
    · rw [if_neg c]
      have e1 : (j % 2).toNat = 1 := by omega
      have hb : bet cs j (valL cs x) ≤ wt cs := bet_le (Nat.le_of_lt hlt)
      have eb' : bet cs j (valL cs x) = (valL cs x / Wj j cs + (j % 2).toNat) * Wj j cs := if_neg (Nat.ne_of_lt hlt)
      rw [eb', e1, Nat.add_mul, Nat.one_mul] at hb
      have := inc_code (many cs j) (truL j cs x) (tru_ok hx) (many_le cs j) (by rw [tru_val hd hx, ← Wj_many hd]; exact hb)
      refine ⟨this.1, ?_⟩
      rw [this.2, tru_val hd hx, ← Wj_many hd, e1, Nat.add_mul, Nat.one_mul]
/-! lifted -/
def pick (own : Int) (best one : Ms) : Ms := if (own = 0 ∧ moreM best one = true) ∨ (own = 1 ∧ moreM one best = true) then one else best
theorem pick_fold {cs : CS} {own : Int} (ho : own = 0 ∨ own = 1) : ∀ (l : List Ms) (b : Ms), OkM cs b → (∀ m ∈ l, OkM cs m) →
    (l.foldl (pick own) b ∈ b :: l) ∧ (own = 0 → ∀ m ∈ b :: l, code cs (l.foldl (pick own) b) ≤ code cs m) ∧ (own ≠ 0 → ∀ m ∈ b :: l, code cs m ≤ code cs (l.foldl (pick own) b))
  | [], b, _, _ => ⟨List.mem_cons_self, fun _ m hm => by rw [List.mem_singleton.mp hm]; exact Nat.le_refl _, fun _ m hm => by rw [List.mem_singleton.mp hm]; exact Nat.le_refl _⟩
  | a :: l, b, hb, hl => by
    have ha := hl a List.mem_cons_self
    have hc : pick own b a = a ∨ pick own b a = b := by
      unfold pick
      split
      · exact .inl rfl
      · exact .inr rfl
    have hp : OkM cs (pick own b a) := by
      rcases hc with e | e <;> rw [e] <;> assumption
    obtain ⟨i1, i2, i3⟩ := pick_fold ho l (pick own b a) hp fun m hm => hl m (List.mem_cons_of_mem _ hm)
    show ((l.foldl (pick own) (pick own b a)) ∈ _) ∧ _
    have q1 : moreM b a = true ↔ code cs a < code cs b := by rw [moreM_code hb ha, decide_eq_true_iff]
    have q2 : moreM a b = true ↔ code cs b < code cs a := by rw [moreM_code ha hb, decide_eq_true_iff]
    have h0 : own = 0 → code cs (pick own b a) ≤ code cs a ∧ code cs (pick own b a) ≤ code cs b := by
      intro e
      unfold pick
      by_cases c : (own = 0 ∧ moreM b a = true) ∨ (own = 1 ∧ moreM a b = true)
      · rw [if_pos c]
        rw [q1, q2] at c
        constructor <;> omega
      · rw [if_neg c]
        rw [q1, q2] at c
        constructor <;> omega
    have h1 : own ≠ 0 → code cs a ≤ code cs (pick own b a) ∧ code cs b ≤ code cs (pick own b a) := by
      intro e
      unfold pick
      by_cases c : (own = 0 ∧ moreM b a = true) ∨ (own = 1 ∧ moreM a b = true)
      · rw [if_pos c]
        rw [q1, q2] at c
        constructor <;> omega
      · rw [if_neg c]
        rw [q1, q2] at c
        constructor <;> omega
    refine ⟨?_, fun e m hm => ?_, fun e m hm => ?_⟩
    · rcases List.mem_cons.mp i1 with e | e
      · rw [e]
        rcases hc with q | q <;> rw [q] <;> simp
      · exact List.mem_cons_of_mem _ (List.mem_cons_of_mem _ e)
    · have t := i2 e _ List.mem_cons_self
      rcases List.mem_cons.mp hm with rfl | hm
      · exact Nat.le_trans t (h0 e).2
      · rcases List.mem_cons.mp hm with rfl | hm
        · exact Nat.le_trans t (h0 e).1
        · exact i2 e m (List.mem_cons_of_mem _ hm)
    · have t := i3 e _ List.mem_cons_self
      rcases List.mem_cons.mp hm with rfl | hm
      · exact Nat.le_trans (h1 e).2 t
      · rcases List.mem_cons.mp hm with rfl | hm
        · exact Nat.le_trans (h1 e).1 t
        · exact i3 e m (List.mem_cons_of_mem _ hm)
/-- all measures told, by place -/
def mAt (f : List Ms) (p : Int) : Ms := f.getD p.toNat none
def cAt (cs : CS) (f : List Ms) (p : Int) : Nat := code cs (mAt f p)
/-- m is what the place is to have -/
def LftM (G : Gm) (cs : CS) (f : List Ms) (p : Int) (m : Ms) : Prop := OkM cs m ∧ Lft G cs (cAt cs f) p (code cs m)
theorem lifted_ok {G : Gm} {cs : CS} (hd : Dec cs) {f : List Ms} {p : Int} (ho : G.own p = 0 ∨ G.own p = 1) (hf : ∀ w ∈ G.ways p, OkM cs (mAt f w)) {b : Ms} {l : List Ms} (hl : (G.ways p).map (fun w => beh cs (G.num p) (mAt f w)) = b :: l) : LftM G cs f p (l.foldl (pick (G.own p)) b) := by
  have all : ∀ m ∈ b :: l, OkM cs m ∧ ∃ w ∈ G.ways p, m = beh cs (G.num p) (mAt f w) := by
    intro m hm
    rw [← hl] at hm
    obtain ⟨w, h1, rfl⟩ := List.mem_map.mp hm
    exact ⟨(beh_code hd _ (hf w h1)).1, w, h1, rfl⟩
  obtain ⟨h1, h2, h3⟩ := pick_fold ho l b (all b List.mem_cons_self).1 fun m hm => (all m (List.mem_cons_of_mem _ hm)).1
  have at' : ∀ w ∈ G.ways p, bet cs (G.num p) (cAt cs f w) = code cs (beh cs (G.num p) (mAt f w)) ∧ beh cs (G.num p) (mAt f w) ∈ b :: l := fun w hw => ⟨(beh_code hd _ (hf w hw)).2.symm, by rw [← hl]; exact List.mem_map.mpr ⟨w, hw, rfl⟩⟩
  obtain ⟨k1, w, k2, k3⟩ := all _ h1
  refine ⟨k1, ⟨w, k2, by rw [(at' w k2).1, k3]⟩, fun e z hz => ?_, fun e z hz => ?_⟩
  · rw [(at' z hz).1]
    exact h2 e _ (at' z hz).2
  · rw [(at' z hz).1]
    exact h3 e _ (at' z hz).2
end Zk
/-! ### the words that my own readings use -/
namespace Gp
open PySem L2 Evl
abbrev rAdd : R2 := rI0 fun i j => .int (i + j)
abbrev rSub : R2 := rI0 fun i j => .int (i - j)
abbrev rMul : R2 := rI CMul fun i j => .int (i * j)
abbrev rMod : R2 := rI (fun _ j => 0 < j) fun i j => .int (i % j)
abbrev rDiv : R2 := rI CDiv fun i j => .int (i / j)
abbrev rPow : R2 := rI CPow fun i j => .int (i ^ j.toNat)
abbrev rLt : R2 := rI0 fun i j => .bl (decide (i < j))
abbrev rLe : R2 := rI0 fun i j => .bl (decide (i ≤ j))
abbrev rGt : R2 := rI0 fun i j => .bl (decide (j < i))
abbrev rGe : R2 := rI0 fun i j => .bl (decide (j ≤ i))
abbrev rIsN : R2 := fun x y H Q => y = .non ∧ Q (.bl (decide (x = .non))) H
abbrev rNotN : R2 := fun x y H Q => y = .non ∧ Q (.bl (!decide (x = .non))) H
abbrev rNeg : V → Hp → VK → Prop := rU fun i => .int (-i)
abbrev rLenD : List V → Hp → VK → Prop := fun xs H Q => ∃ a kvs, xs = [V.ref a] ∧ H a = some (.dK kvs) ∧ Q (.int kvs.length) H
abbrev rMin2 : List V → Hp → VK → Prop := fun xs H Q => ∃ i j, xs = [.int i, .int j] ∧ Q (.int (if j < i then j else i)) H
abbrev rTupS (K : PySem.W.Frag) : List V → Hp → VK → Prop := fun xs H Q => ∃ p ys, xs = [.ref p] ∧ ((SqL K H p ys ∧ ∀ l, H l = none → Q (.ref l) (upd H l (.tup ys))) ∨ (SqT K H p ys ∧ Q (.ref p) H))
/-- what the text's top doesn't name -/
structure Bi (mg : Str → Option Value) : Prop where
  len : mg "len" = none
  isinstance : mg "isinstance" = none
  all : mg "all" = none
  sum : mg "sum" = none
  max : mg "max" = none
  min : mg "min" = none
  range : mg "range" = none
  enumerate : mg "enumerate" = none
  reversed : mg "reversed" = none
  sorted : mg "sorted" = none
  set_ : mg "set" = none
  list_ : mg "list" = none
  tuple_ : mg "tuple" = none
  int_ : mg "int" = none
  bool_ : mg "bool" = none
/-- a def of the text that may be called by its name -/
structure CalC (P : Program) (w : World) (K : PySem.W.Frag) (mg : Str → Option Value) (base : Heap) (k : Nat) (x : Str) (sp : Sp) : Prop where
  ex : ∃ (f : Addr) (fd : FuncData) (ps : List Str), FnOk P w K mg base CX0 k f fd ps sp ∧ mg x = some (.ref f) ∧ PySem.W.keepIn K (.ref f) = true ∧ Binds K fd ps []
theorem CalC.mono {P : Program} {w : World} {K : PySem.W.Frag} {mg : Str → Option Value} {base : Heap} {j k : Nat} {x : Str} {sp : Sp} (c : CalC P w K mg base j x sp) (h : j ≤ k) : CalC P w K mg base k x sp := by
  obtain ⟨f, fd, ps, F, r⟩ := c.ex
  exact ⟨f, fd, ps, F.mono h, r⟩
theorem CalC.imp {P : Program} {w : World} {K : PySem.W.Frag} {mg : Str → Option Value} {base : Heap} {k : Nat} {x : Str} {sp sp' : Sp} (c : CalC P w K mg base k x sp) (h : ∀ vs H Q E, sp' vs H Q E → sp vs H Q E) : CalC P w K mg base k x sp' := by
  obtain ⟨f, fd, ps, F, r⟩ := c.ex
  exact ⟨f, fd, ps, F.imp h, r⟩
/-- a def as the top has left it -/
structure DefC (K : PySem.W.Frag) (mg : Str → Option Value) (x : Str) (st : Stmt) (ps : List Str) : Prop where
  ex : ∃ (f : Addr) (fd : FuncData), Fun K x x st f fd ∧ mg x = some (.ref f) ∧ Binds K fd ps []
section
variable {P : Program} {w : World} {K : PySem.W.Frag} {mg : Str → Option Value} {base : Heap}
theorem DefC.cal {x : Str} {st : Stmt} {N ps : List Str} {k : Nat} {sp : Sp} (d : DefC K mg x st ps) (S : FnScope N ps (defScope st)) (len : ∀ vs H Q E, sp vs H Q E → vs.length = ps.length)
    (hbody : ∀ (f : Addr) (cdv : Value) (A : Around) (outer : List Env) (s : Shared) (H : Hp) (vs : List V) (Q : VK) (E : XK), Room k (A.deeper (PyProof.Rows.envOfC x (defScope st) s.heap.objs.size f cdv)) → sp vs H Q E →
      ∃ t, PSs (cxOf CX0 P w K mg base N x (defScope st) f cdv A outer s H E).nox (defBody st) t ∧ t { nx := fun _ H' => Q .non H', rt := Q } (start N vs) H) : CalC P w K mg base (k + 1) x sp := by
  obtain ⟨f, fd, F, hm, hb⟩ := d.ex
  exact ⟨f, fd, ps, F.ok S len (hbody f), hm, F.kp, hb⟩
end
section
variable {X : Cx} {k j : Nat} {x : Str} {sp : Sp} {p pos : Pos} {e : Expr} {es : List Expr} {t : TA}
theorem pe_cc (c : CalC X.prog X.w X.K X.mg X.base k x sp) (hr : Room j X.A) (hk : k ≤ j) (hg : Gl X x) (ha : PA X (e :: es) t) (hdb : (x == ("__debug__" : Str)) = false := by decide)
    (he : starEach (e :: es) X.env = (false, eval e X.env) :: starEach es X.env := by rfl) (hpl : (backTo pos (starEach es X.env)).any (·.1) = false := by rfl) : PE X (.Call (.Name x p) (e :: es) [] pos) (tCall sp [] E0 t) := by
  obtain ⟨f, fd, ps, F, hm, kp, b⟩ := c.ex
  exact pe_call F (hr.mono hk) hg hm kp b .nil pass0 ha hdb he hpl
end
/-! ### numbers of unlike ones -/
def nUnlike (ns : List Int) : Nat := (PyProof.Rows.firstMet (fun i => ns.getD i 0) ns.length).length
theorem fm_nodup (ns : List Int) : ∀ i, i ≤ ns.length → (PyProof.Rows.firstMet (fun i => ns.getD i 0) i).length = i → (ns.take i).Nodup
  | 0, _, _ => by simp
  | i + 1, hi, h => by
    have hlt : i < ns.length := hi
    have le := PyProof.Rows.firstMet_length_le (fun i => ns.getD i 0) i
    have any := PyProof.Rows.firstMet_any (fun i => ns.getD i 0) i (ns.getD i 0)
    rw [PyProof.Rows.firstMet_succ] at h
    unfold PyProof.Rows.step_dedup at h
    cases e : (PyProof.Rows.firstMet (fun i => ns.getD i 0) i).any (· == ns.getD i 0) with
    | true =>
      rw [if_pos e] at h
      omega
    | false =>
      rw [if_neg (by rw [e]; decide), List.length_append, List.length_singleton] at h
      have h : (PyProof.Rows.firstMet (fun i => ns.getD i 0) i).length = i := by omega
      have ih := fm_nodup ns i (by omega) h
      rw [List.take_succ_eq_append_getElem hlt, List.nodup_append]
      refine ⟨ih, by simp, fun a ha b hb => ?_⟩
      rw [e] at any
      have hb' : b = ns[i] := by simpa using hb
      intro z
      subst z
      subst hb'
      have z2 : ((List.range i).map (fun i => ns.getD i 0)).any (· == ns.getD i 0) = true := by
        rw [List.any_eq_true]
        obtain ⟨j, hj, ej⟩ := List.getElem_of_mem ha
        rw [List.length_take] at hj
        refine ⟨ns.getD j 0, List.mem_map.mpr ⟨j, List.mem_range.mpr (by omega), rfl⟩, ?_⟩
        rw [List.getElem_take] at ej
        have : j < ns.length := by omega
        simp [List.getD, this, hlt, ej]
      rw [z2] at any
      cases any
theorem nUnlike_nodup {ns : List Int} : nUnlike ns = ns.length ↔ ns.Nodup := by
  constructor
  · intro h
    have := fm_nodup ns ns.length (Nat.le_refl _) h
    rwa [List.take_length] at this
  · intro h
    unfold nUnlike
    rw [RZ.firstMet_nodup h ns.length (Nat.le_refl _), List.take_length]
def tLenSetX (K : PySem.W.Frag) (ta : TE) : TE := fun σ H Q => ta σ H fun x H1 => ∃ (l : Addr) (ns : List Int), x = .ref l ∧ SqL K H1 l (ns.map V.int) ∧ ns.length ≤ 4000 ∧ Q (.int (nUnlike ns : Nat)) H1
theorem pe_lenSetX {X : Cx} {a : Expr} {ta : TE} {p p2 q pos : Pos} (hg : Gl X "len") (hm : X.mg "len" = none) (hg2 : Gl X "set") (hm2 : X.mg "set" = none) (ha : PE X a ta) (hc : X.calm = true := by rfl)
    (na : starEach [a] X.env = (false, eval a X.env) :: starEach [] X.env := by rfl) : PE X (.Call (.Name "len" p) [.Call (.Name "set" p2) [a] [] q] [] pos) (tLenSetX X.K ta) := by
  constructor
  intro pins s σ H Q I h
  refine PyProof.Rows.Call_ (ld_blt I hg hm PySem.boot_len ?_)
  refine PyProof.Rows.callWith_builtin1 (PyProof.Rows.args_cons ?_ rfl) rfl rfl
  refine PyProof.Rows.Call_ (ld_blt I hg2 hm2 PyProof.Rows.boot_set ?_)
  refine PyProof.Rows.callWith_type1 (PyProof.Rows.args_cons (thn (ha.run pins s σ H _ I h) ?_) na) na rfl
  intro v s1 hv
  obtain ⟨x, H1, I1, r1, l, ns, ex, hq, hl, q1⟩ := hv
  refine PyProof.Rows.args_nil ?_
  subst ex
  cases r1
  obtain ⟨its, r, pl, hz⟩ := I1.list hq
  have hlen : its.toArray.size = ns.length := by
    rw [List.size_toArray, ← r.length, List.length_map]
  have hsz : its.toArray.size + 1 < scanBound := by
    rw [hlen]
    unfold scanBound
    omega
  refine PySem.call_set_list (I1.ok.hd hc) pl.isList (by simpa using intsAre_of r) hsz fun h' tk hS hk => ?_
  refine PyProof.Rows.args_nil ?_
  rw [hlen] at hS
  obtain ⟨o, es, ep, t, ho, hex, hd, _, _, _, hf, hn⟩ := hS
  have I2 : Inv X pins σ H1 { s1 with heap := h', toks := tk } := I1.kept fun b o e => hk b o (Heap.lt_size e) e
  have le : nUnlike ns ≤ ns.length := PyProof.Rows.firstMet_length_le _ _
  have hn' : es.size = nUnlike ns := hn
  exact PySem.call_len_set ho hex hd hf (by omega) ⟨.int (nUnlike ns : Nat), H1, I2.tok _, ⟨_, by rw [hn']⟩, q1⟩
end Gp
/-! ### what the readings evaluate to: more rules of the kind of Evl -/
namespace Gp
open PySem L2 Evl
/-- ints as values; a dict of ints -/
abbrev iv (ns : List Int) : List V := ns.map V.int
abbrev kd (d : List (Int × Int)) : List (Key × V) := d.map fun p => (Sum.inl p.1, V.int p.2)
section
variable {K : PySem.W.Frag} {σ : L2.St} {H H' : Hp} {ta tb tc te tx td ty tl tv : TE} {t u : TT} {x y z v : V} {D : Ends} {tu tw tz : TS} {g : TG}
theorem fresh_at {a b : Addr} {o : HO} (h' : H b = none) (h : H a = some o) : a ≠ b := ne_of_none h h'
theorem rd_l {a : Addr} {xs : List V} (h : H a = some (.lst xs)) : SqL K H a xs := sq_of h
/-! isinstance -/
theorem TyX.mono {c : Value} (e : Evl.Ex H H') (h : TyX K H x c) (hi : ∀ C, c ≠ .ref C) : TyX K H' x c := by
  cases h with
  | base b =>
    refine .base ?_
    cases b with
    | non => exact .non
    | bl b => exact .bl b
    | int i => exact .int i
    | str s => exact .str s
    | flt s => exact .flt s
    | lst h => exact .lst (e _ _ h)
    | frz h => exact .frz (e _ _ h)
    | tup h => exact .tup (e _ _ h)
    | dK h => exact .dK (e _ _ h)
    | dT h => exact .dT (e _ _ h)
    | ins h => exact (hi _ rfl).elim
  | byt b => exact .byt b
  | set h => exact .set (e _ _ h)
  | kList h c => exact .kList h c
  | kTuple h c => exact .kTuple h c
  | kDict h c => exact .kDict h c
  | fTuple h => exact .fTuple (e _ _ h)
  | fDict h => exact .fDict (e _ _ h)
theorem ev_isi {n T : String} {b : Bool} (ha : Ev ta σ H x) (t : TyX K H x (.type n)) (h : kitB n T = some b) : Ev (tCB (rIsi K) (tCons ta (tCons (tC (.ty T)) tNil))) σ H (.bl b) := fun H1 e Q q =>
  ha H1 e _ fun H2 e2 => ⟨x, .ty T, .type n, .type T, b, rfl, .ty T, TyX.mono (e.trans e2) t (fun _ z => nomatch z), kit_ty h, q H2 e2⟩
theorem tyx_list {a : Addr} {xs : List V} (h : SqL K H a xs) : TyX K H (.ref a) (.type "list") := by
  rcases h with (h | ⟨o, h⟩) | ⟨o, its, n, h, hc, _⟩
  · exact .base (.lst h)
  · exact .base (.frz h)
  · exact .kList h hc
theorem tyx_tup {a : Addr} {xs : List V} (h : SqT K H a xs) : TyX K H (.ref a) (.type "tuple") := by
  rcases h with (h | ⟨o, h⟩) | ⟨o, its, n, h, hc, _⟩
  · exact .base (.tup h)
  · exact .fTuple h
  · exact .kTuple h hc
/-! operators -/
theorem rv_mod {i j : Int} (h : 0 < j) : RV rMod (.int i) (.int j) H (.int (i % j)) := rv_I (C := fun _ j => 0 < j) (g := fun i j => .int (i % j)) h
theorem rv_div {i j : Int} (h : 0 < j) (h2 : j < 1073741824) : RV rDiv (.int i) (.int j) H (.int (i / j)) := rv_I (C := CDiv) (g := fun i j => .int (i / j)) ⟨h, h2⟩
theorem rv_mulL {i j : Int} (h : -(2 ^ 64) < i ∧ i < 2 ^ 64) : RV rMul (.int i) (.int j) H (.int (i * j)) := rv_I (C := CMul) (g := fun i j => .int (i * j)) (.inl h)
theorem rv_mulR {i j : Int} (h : -(2 ^ 64) < j ∧ j < 2 ^ 64) : RV rMul (.int i) (.int j) H (.int (i * j)) := rv_I (C := CMul) (g := fun i j => .int (i * j)) (.inr h)
theorem rv_pow {i j : Int} (h : 0 ≤ j ∧ j ≤ 1000000 ∧ i.natAbs < 2 ^ 64) : RV rPow (.int i) (.int j) H (.int (i ^ j.toNat)) := rv_I (C := CPow) (g := fun i j => .int (i ^ j.toNat)) h
theorem rv_isN : RV rIsN x .non H (.bl (decide (x = .non))) := fun H1 _ _ q => ⟨rfl, q H1 (Evl.Ex.refl H1)⟩
theorem rv_notN : RV rNotN x .non H (.bl (!decide (x = .non))) := fun H1 _ _ q => ⟨rfl, q H1 (Evl.Ex.refl H1)⟩
theorem ev_chain {i j l : Int} (ha : Ev ta σ H (.int i)) (hb : Ev tb σ H (.int j)) (hc : Ev tc σ H (.int l)) : Ev (tChain rLe rLt ta tb tc) σ H (.bl (decide (i ≤ j) && decide (j < l))) := fun H1 e Q q =>
  ha H1 e _ fun H2 e2 => hb H2 (e.trans e2) _ fun H3 e3 => ⟨i, j, rfl, rfl, decide (i ≤ j), rfl, by
    by_cases h : i ≤ j
    · simp only [decide_eq_true h, if_true]
      refine hc H3 ((e.trans e2).trans e3) _ fun H4 e4 => ⟨j, l, rfl, rfl, ?_⟩
      have q' := q H4 ((e2.trans e3).trans e4)
      rw [decide_eq_true h, Bool.true_and] at q'
      exact q'
    · simp only [decide_eq_false h, Bool.false_eq_true, if_false]
      have q' := q H3 (e2.trans e3)
      rw [decide_eq_false h, Bool.false_and] at q'
      exact q'⟩
theorem et_yes : EvT tYes σ H true := fun H1 _ _ q => q H1 (Evl.Ex.refl H1)
/-! lists of ints -/
theorem flat_iv (ns : List Int) : (iv ns).all flatV = true := by
  rw [List.all_eq_true]
  intro x hx
  obtain ⟨n, _, rfl⟩ := List.mem_map.mp hx
  rfl
theorem inV_iv (n : Int) (ns : List Int) : inV (.int n) (iv ns) = decide (n ∈ ns) := by
  unfold inV
  induction ns with
  | nil => rfl
  | cons a r ih =>
    show (eqV (.int a) (.int n) || (iv r).any fun y => eqV y (.int n)) = _
    rw [ih]
    show ((a == n) || _) = _
    by_cases e : a = n
    · simp [e]
    · have : ¬ n = a := fun z => e z.symm
      simp [e, this]
theorem rv_inI {p : Addr} {ns : List Int} {n : Int} (h : SqL K H p (iv ns)) : RV (rIn K false) (.int n) (.ref p) H (.bl (decide (n ∈ ns))) := by
  have r := rv_isL (x := .int n) h rfl (flat_iv ns)
  rw [inV_iv] at r
  exact r
theorem rv_niI {p : Addr} {ns : List Int} {n : Int} (h : SqL K H p (iv ns)) : RV (rIn K true) (.int n) (.ref p) H (.bl (!decide (n ∈ ns))) := by
  have r := rv_niL (x := .int n) h rfl (flat_iv ns)
  rw [inV_iv] at r
  exact r
theorem rv_inTI {p : Addr} {ns : List Int} {n : Int} (h : SqT K H p (iv ns)) : RV (rIn K false) (.int n) (.ref p) H (.bl (decide (n ∈ ns))) := by
  have r := rv_isT (x := .int n) h rfl (flat_iv ns)
  rw [inV_iv] at r
  exact r
theorem at_iv {ns : List Int} {i : Int} (h0 : 0 ≤ i) (h1 : i < ns.length) : atI (iv ns) i = some (.int (ns.getD i.toNat 0)) := by
  obtain ⟨k, rfl⟩ := Int.eq_ofNat_of_zero_le h0
  have hk : k < ns.length := by omega
  rw [atI_nat (xs := iv ns) (j := k) (v := .int (ns.getD k 0)) (by simp [List.getElem?_map, hk])]
  simp
theorem rv_ixI {p : Addr} {ns : List Int} {i : Int} (h : SqL K H p (iv ns)) (h0 : 0 ≤ i) (h1 : i < ns.length) : RV (rIxL K) (.ref p) (.int i) H (.int (ns.getD i.toNat 0)) := rv_ixL h (at_iv h0 h1)
theorem given_eq (ns : List Int) (p : Int → Bool) (f : Int → V) : given ns.length (fun i => p (ns.getD i 0)) (fun i => f (ns.getD i 0)) = (ns.filter p).map f := by
  have e : (List.range ns.length).map (fun i => ns.getD i 0) = ns := by
    apply List.ext_getElem
    · simp
    · intro i h1 h2
      simp [h2]
  unfold given
  have h := List.filter_map (f := fun i => ns.getD i 0) (p := p) (l := List.range ns.length)
  rw [e] at h
  rw [h, List.map_map]
  rfl
theorem iv_get {ns : List Int} {i : Nat} {x : V} (h : (iv ns)[i]? = some x) : i < ns.length ∧ x = .int (ns.getD i 0) ∧ ns.getD i 0 ∈ ns := by
  rw [List.getElem?_map] at h
  cases e : ns[i]? with
  | none => rw [e] at h; cases h
  | some n =>
    rw [e] at h
    obtain ⟨h1, h2⟩ := List.getElem?_eq_some_iff.mp e
    have h3 : ns.getD i 0 = n := by simp [List.getD, e]
    exact ⟨h1, by rw [h3]; exact (Option.some.inj h).symm, by rw [h3]; exact List.mem_of_getElem? e⟩
/-- [f(n) for n in ns if p(n)] -/
theorem el_lcI {a : Addr} {ns : List Int} {j : Nat} {vs : List Nat} (p : Int → Bool) (f : Int → V) (h : Ev tl σ H (.ref a)) (hx : SqL K H a (iv ns)) (hz : ns.length ≤ 40000) (hw : ∀ x, wipe ((wipe σ vs).set j (some x)) vs = wipe σ vs)
    (ht : ∀ n H1, n ∈ ns → Evl.Ex H H1 → EvT t ((wipe σ vs).set j (some (.int n))) H1 (p n)) (he : ∀ n H1, n ∈ ns → Evl.Ex H H1 → p n = true → Ev te ((wipe σ vs).set j (some (.int n))) H1 (f n)) :
    EvL (tLc (iList K tl) (gName j) t te vs) σ H ((ns.filter p).map f) := by
  have r := el_lcL (t := t) (te := te) (fun i => p (ns.getD i 0)) (fun i => f (ns.getD i 0)) h hx (by simpa using hz) hw
    (fun i x H1 e hi => by
      obtain ⟨h1, rfl, h3⟩ := iv_get hi
      exact ht _ _ h3 e) (fun i x H1 e hi hf => by
      obtain ⟨h1, rfl, h3⟩ := iv_get hi
      exact he _ _ h3 e hf)
  rw [List.length_map, given_eq] at r
  exact r
theorem el_lcNI {ns : List Int} {j : Nat} {vs : List Nat} (p : Int → Bool) (f : Int → V) (h : EvL tl σ H (iv ns)) (hz : ns.length ≤ 40000) (hw : ∀ x, wipe ((wipe σ vs).set j (some x)) vs = wipe σ vs)
    (ht : ∀ n H1, n ∈ ns → Evl.Ex H H1 → EvT t ((wipe σ vs).set j (some (.int n))) H1 (p n)) (he : ∀ n H1, n ∈ ns → Evl.Ex H H1 → p n = true → Ev te ((wipe σ vs).set j (some (.int n))) H1 (f n)) :
    EvL (tLc (iList K tl) (gName j) t te vs) σ H ((ns.filter p).map f) := by
  have r := el_lcNL (K := K) (t := t) (te := te) (fun i => p (ns.getD i 0)) (fun i => f (ns.getD i 0)) h (by simpa using hz) hw
    (fun i x H1 e hi => by
      obtain ⟨h1, rfl, h3⟩ := iv_get hi
      exact ht _ _ h3 e) (fun i x H1 e hi hf => by
      obtain ⟨h1, rfl, h3⟩ := iv_get hi
      exact he _ _ h3 e hf)
  rw [List.length_map, given_eq] at r
  exact r
theorem given_eqV (xs : List V) (p : V → Bool) (f : V → V) : given xs.length (fun i => p (xs.getD i .non)) (fun i => f (xs.getD i .non)) = (xs.filter p).map f := by
  have e : (List.range xs.length).map (fun i => xs.getD i .non) = xs := by
    apply List.ext_getElem
    · simp
    · intro i h1 h2
      simp [h2]
  unfold given
  have h := List.filter_map (f := fun i => xs.getD i .non) (p := p) (l := List.range xs.length)
  rw [e] at h
  rw [h, List.map_map]
  rfl
theorem vget {xs : List V} {i : Nat} {x : V} (h : xs[i]? = some x) : x = xs.getD i .non ∧ x ∈ xs := ⟨by simp [List.getD, h], List.mem_of_getElem? h⟩
/-- [f(x) for x in xs if p(x)] -/
theorem el_lcV {a : Addr} {xs : List V} {j : Nat} {vs : List Nat} (p : V → Bool) (f : V → V) (h : Ev tl σ H (.ref a)) (hx : SqL K H a xs) (hz : xs.length ≤ 40000) (hw : ∀ x, wipe ((wipe σ vs).set j (some x)) vs = wipe σ vs)
    (ht : ∀ n H1, n ∈ xs → Evl.Ex H H1 → EvT t ((wipe σ vs).set j (some n)) H1 (p n)) (he : ∀ n H1, n ∈ xs → Evl.Ex H H1 → p n = true → Ev te ((wipe σ vs).set j (some n)) H1 (f n)) :
    EvL (tLc (iList K tl) (gName j) t te vs) σ H ((xs.filter p).map f) := by
  have r := el_lcL (t := t) (te := te) (fun i => p (xs.getD i .non)) (fun i => f (xs.getD i .non)) h hx hz hw
    (fun i x H1 e hi => by
      obtain ⟨h1, h3⟩ := vget hi
      rw [← h1]
      exact ht _ _ h3 e) (fun i x H1 e hi hf => by
      obtain ⟨h1, h3⟩ := vget hi
      rw [← h1] at hf ⊢
      exact he _ _ h3 e hf)
  rw [given_eqV] at r
  exact r
theorem el_lcV1 {a : Addr} {xs : List V} {j : Nat} {vs : List Nat} (f : V → V) (h : Ev tl σ H (.ref a)) (hx : SqL K H a xs) (hz : xs.length ≤ 40000) (hw : ∀ x, wipe ((wipe σ vs).set j (some x)) vs = wipe σ vs)
    (he : ∀ n H1, n ∈ xs → Evl.Ex H H1 → Ev te ((wipe σ vs).set j (some n)) H1 (f n)) :
    EvL (tLc (iList K tl) (gName j) tYes te vs) σ H (xs.map f) := by
  have r := el_lcV (t := tYes) (fun _ => true) f h hx hz hw (fun _ H1 _ _ => et_yes) (fun n H1 hn e _ => he n H1 hn e)
  rwa [List.filter_eq_self.mpr (fun _ _ => rfl)] at r
theorem el_lcI1 {a : Addr} {ns : List Int} {j : Nat} {vs : List Nat} (f : Int → V) (h : Ev tl σ H (.ref a)) (hx : SqL K H a (iv ns)) (hz : ns.length ≤ 40000) (hw : ∀ x, wipe ((wipe σ vs).set j (some x)) vs = wipe σ vs)
    (he : ∀ n H1, n ∈ ns → Evl.Ex H H1 → Ev te ((wipe σ vs).set j (some (.int n))) H1 (f n)) :
    EvL (tLc (iList K tl) (gName j) tYes te vs) σ H (ns.map f) := by
  have r := el_lcI (t := tYes) (fun _ => true) f h hx hz hw (fun _ H1 _ _ => et_yes) (fun n H1 hn e _ => he n H1 hn e)
  rwa [List.filter_eq_self.mpr (fun _ _ => rfl)] at r
theorem EvL.to {xs ys : List V} (h : EvL te σ H xs) (e : xs = ys) : EvL te σ H ys := e ▸ h
theorem Ev.to (h : Ev te σ H x) (e : x = y) : Ev te σ H y := e ▸ h
theorem EvT.to {a b : Bool} (h : EvT t σ H a) (e : a = b) : EvT t σ H b := e ▸ h
theorem ev_all {bs : List Bool} (h : EvL te σ H (bs.map V.bl)) : Ev (tCB (rAll K) (tCons te tNil)) σ H (.bl (bs.all id)) := fun H1 e Q q =>
  h H1 e _ fun p H2 _ e2 hp => ⟨p, bs, rfl, sq_of hp, q H2 e2⟩
theorem ev_maxN {ns : List Int} {m : Int} (h : EvL te σ H (iv ns)) (h0 : ns ≠ []) (hm : ∀ k, k ∈ ns → (∀ y ∈ ns, y ≤ k) → k = m) : Ev (tCB (rMax K) (tCons te tNil)) σ H (.int m) := fun H1 e Q q =>
  h H1 e _ fun p H2 _ e2 hp => ⟨p, ns, rfl, sq_of hp, by cases ns with | nil => exact absurd rfl h0 | cons a r => exact Nat.zero_lt_succ _, fun k hk hl => by
    rw [hm k hk hl]
    exact q H2 e2⟩
theorem ev_sumN {ns : List Int} (h : EvL te σ H (iv ns)) : Ev (tCB (rSum K) (tCons te tNil)) σ H (.int ns.sum) := fun H1 e Q q =>
  h H1 e _ fun p H2 _ e2 hp => ⟨p, ns, rfl, sq_of hp, q H2 e2⟩
theorem ev_lenT {p : Addr} {xs : List V} (ha : Ev ta σ H (.ref p)) (h : SqT K H p xs) : Ev (tCB (rLenS K) (tCons ta tNil)) σ H (.int (xs.length : Int)) := fun H1 e Q q =>
  ha H1 e _ fun H2 e2 => ⟨p, xs, rfl, .inr (ex_t (e.trans e2) h), q H2 e2⟩
theorem ev_lenSet {p : Addr} {ns : List Int} (ha : Ev ta σ H (.ref p)) (h : SqL K H p (iv ns)) (hl : ns.length ≤ 4000) : Ev (tLenSetX K ta) σ H (.int (nUnlike ns : Nat)) := fun H1 e Q q =>
  ha H1 e _ fun H2 e2 => ⟨p, ns, rfl, ex_l (e.trans e2) h, hl, q H2 e2⟩
theorem ev_min2 {i j : Int} (ha : Ev ta σ H (.int i)) (hb : Ev tb σ H (.int j)) : Ev (tCB rMin2 (tCons ta (tCons tb tNil))) σ H (.int (if j < i then j else i)) := fun H1 e Q q =>
  ha H1 e _ fun H2 e2 => hb H2 (e.trans e2) _ fun H3 e3 => ⟨i, j, rfl, q H3 (e2.trans e3)⟩
theorem rg_iv (n : Int) : rgV 0 n = iv ((List.range n.toNat).map fun i : Nat => (i : Int)) := by
  unfold rgV iv
  rw [List.map_map, Int.sub_zero]
  refine List.map_congr_left fun i _ => ?_
  show V.int (0 + (i : Int)) = V.int (i : Int)
  rw [Int.zero_add]
theorem el_listRg {n : Int} (h : Ev ta σ H (.int n)) (h0 : 0 ≤ n) (h1 : n ≤ 100000) : EvL (tLstRg (tRg1 ta)) σ H (iv ((List.range n.toNat).map fun i : Nat => (i : Int))) := fun H1 e Q q =>
  h H1 e _ fun H2 e2 => ⟨n, rfl, ⟨by omega, by omega, by omega, by omega, by omega⟩, fun p hp => by
    rw [rg_iv]
    exact q p _ (fresh_back e2 hp) (e2.trans (Evl.Ex.new hp)) upd_same⟩
/-! == of lists of ints -/
theorem dpAll_iv : ∀ ns : List Int, DpAll K H (iv ns) (ns.map PyData.int)
  | [] => .nil
  | a :: r => .cons (.int a) (dpAll_iv r)
theorem dp_iv {a : Addr} {ns : List Int} (h : SqL K H a (iv ns)) : Dp K H (.ref a) (.list (ns.map PyData.int)) := .lst h (dpAll_iv ns)
mutual
theorem Dp.mono (e : Evl.Ex H H') : ∀ {v : V} {d : PyData}, Dp K H v d → Dp K H' v d
  | _, _, .non => .non
  | _, _, .bl b => .bl b
  | _, _, .int i => .int i
  | _, _, .str s => .str s
  | _, _, .lst h r => .lst (ex_l e h) (DpAll.mono e r)
  | _, _, .tup h r => .tup (ex_t e h) (DpAll.mono e r)
theorem DpAll.mono (e : Evl.Ex H H') : ∀ {vs : List V} {ds : List PyData}, DpAll K H vs ds → DpAll K H' vs ds
  | _, _, .nil => .nil
  | _, _, .cons h r => .cons (Dp.mono e h) (DpAll.mono e r)
end
theorem rv_eqD {d e : PyData} (hd : Dp K H x d) (he : Dp K H y e) (sd : SeqAt.shaped d = true) (se : SeqAt.shaped e = true) : RV (rEqD K) x y H (.bl (PyData.eqv d e)) := fun H1 ex Q q => ⟨d, e, Dp.mono ex hd, Dp.mono ex he, sd, se, q H1 (Evl.Ex.refl H1)⟩
theorem rv_neD {d e : PyData} (hd : Dp K H x d) (he : Dp K H y e) (sd : SeqAt.shaped d = true) (se : SeqAt.shaped e = true) : RV (rNeD K) x y H (.bl (!PyData.eqv d e)) := fun H1 ex Q q => ⟨d, e, Dp.mono ex hd, Dp.mono ex he, sd, se, q H1 (Evl.Ex.refl H1)⟩
/-! dicts -/
theorem valV_kd (d : List (Int × Int)) (k : Int) : valV (kd d) (Sum.inl k : Key) = (((d.find? fun kv => decide (kv.1 = k)).map (·.2)).map V.int) := by
  induction d with
  | nil => rfl
  | cons p r ih =>
    show valV ((Sum.inl p.1, V.int p.2) :: kd r) (Sum.inl k : Key) = _
    by_cases e : p.1 = k
    · rw [valV_pos (by rw [e])]
      simp [List.find?_cons, e]
    · rw [valV_neg (fun z => e (Sum.inl.inj z)), ih]
      simp [List.find?_cons, e]
theorem ev_dget {a : Addr} {kvs : List (Key × V)} {k : Key} (hd : Ev td σ H (.ref a)) (hy : Ev ty σ H (kV k)) (h : H a = some (.dK kvs)) (hv : valV kvs k = some v) : Ev (tDGet td ty) σ H v := fun H1 e Q q =>
  hd H1 e _ fun H2 e2 => hy H2 (e.trans e2) _ fun H3 e3 => ⟨a, v, rfl, by
    have g := DGet.k (k := k) (((e.trans e2).trans e3) _ _ h)
    rw [hv] at g
    exact g, q H3 (e2.trans e3)⟩
theorem ev_din {a : Addr} {kvs : List (Key × V)} {k : Key} (hy : Ev ty σ H (kV k)) (hd : Ev td σ H (.ref a)) (h : H a = some (.dK kvs)) : Ev (tDIn ty td) σ H (.bl (valV kvs k).isSome) := fun H1 e Q q =>
  hy H1 e _ fun H2 e2 => hd H2 (e.trans e2) _ fun H3 e3 => ⟨a, _, rfl, DGet.k (k := k) (((e.trans e2).trans e3) _ _ h), q H3 (e2.trans e3)⟩
theorem ev_dni {a : Addr} {kvs : List (Key × V)} {k : Key} (hy : Ev ty σ H (kV k)) (hd : Ev td σ H (.ref a)) (h : H a = some (.dK kvs)) : Ev (tDNotIn ty td) σ H (.bl (!(valV kvs k).isSome)) := fun H1 e Q q =>
  hy H1 e _ fun H2 e2 => hd H2 (e.trans e2) _ fun H3 e3 => ⟨a, _, rfl, DGet.k (k := k) (((e.trans e2).trans e3) _ _ h), q H3 (e2.trans e3)⟩
theorem ev_dget1 {a : Addr} {kvs : List (Key × V)} {k : Key} (hd : Ev td σ H (.ref a)) (hy : Ev ty σ H (kV k)) (h : H a = some (.dK kvs)) : Ev (tDGet1 td ty) σ H ((valV kvs k).getD .non) := fun H1 e Q q =>
  hd H1 e _ fun H2 e2 => ⟨a, rfl, .inl ⟨kvs, .inl ((e.trans e2) _ _ h)⟩, hy H2 (e.trans e2) _ fun H3 e3 => ⟨_, DGet.k (k := k) (((e.trans e2).trans e3) _ _ h), q H3 (e2.trans e3)⟩⟩
theorem ev_dget2 {a : Addr} {kvs : List (Key × V)} {k : Key} (hd : Ev td σ H (.ref a)) (hy : Ev ty σ H (kV k)) (hx : Ev tx σ H z) (h : H a = some (.dK kvs)) : Ev (tDGet2 td ty tx) σ H ((valV kvs k).getD z) := fun H1 e Q q =>
  hd H1 e _ fun H2 e2 => ⟨a, rfl, .inl ⟨kvs, .inl ((e.trans e2) _ _ h)⟩, hy H2 (e.trans e2) _ fun H3 e3 => hx H3 ((e.trans e2).trans e3) _ fun H4 e4 => ⟨_, DGet.k (k := k) ((((e.trans e2).trans e3).trans e4) _ _ h), q H4 ((e2.trans e3).trans e4)⟩⟩
/-- d[k] = v -/
theorem s_dput {a : Addr} {kvs : List (Key × V)} {k : Key} (hv : Ev tv σ H v) (hd : Ev td σ H (.ref a)) (hy : Ev ty σ H (kV k)) (h : H a = some (.dK kvs)) (hl : kvs.length < 100000) (c : ∀ H1, Evl.Ex H H1 → D.nx σ (upd H1 a (.dK (putK kvs k v)))) : sDPut td ty tv D σ H :=
  hv H (Evl.Ex.refl H) _ fun H1 e1 => hd H1 e1 _ fun H2 e2 => hy H2 (e1.trans e2) _ fun H3 e3 => ⟨a, _, rfl, DPut.k (k := k) (((e1.trans e2).trans e3) _ _ h) (sz_lt hl), c H3 ((e1.trans e2).trans e3)⟩
theorem q_dput {a : Addr} {kvs : List (Key × V)} {k : Key} (hv : Ev tv σ H v) (hd : Ev td σ H (.ref a)) (hy : Ev ty σ H (kV k)) (h : H a = some (.dK kvs)) (hl : kvs.length < 100000) (c : ∀ H1, Evl.Ex H H1 → tz D σ (upd H1 a (.dK (putK kvs k v)))) : tSeq (sDPut td ty tv) tz D σ H :=
  s_dput (D := { D with nx := tz D }) hv hd hy h hl c
theorem q_newD {i : Nat} (c : ∀ p, H p = none → tz D (σ.set i (some (.ref p))) (upd H p (.dK []))) : tSeq (tAsg tDNewK (gName i)) tz D σ H := fun p hp => c p hp
/-! calls -/
theorem tcall_of {sp : Sp} {ta : TA} {vs : List V} {Q : VK} {E : XK} (h : EvA ta σ H vs) (k : ∀ H1, Evl.Ex H H1 → sp vs H1 Q E) : tCall sp [] E ta σ H Q := h H (Evl.Ex.refl H) _ fun H1 e => by
  show sp (vs ++ []) H1 Q E
  rw [List.append_nil]
  exact k H1 e
theorem ev_call0 {sp : Sp} {vs : List V} {E : XK} {ta : TA} (h : EvA ta σ H vs) (hs : SpV sp vs H z) : Ev (tCall sp [] E ta) σ H z := ev_call h (by rw [List.append_nil]; exact hs)
theorem el_call0 {sp : Sp} {vs xs : List V} {E : XK} {ta : TA} (h : EvA ta σ H vs) (hs : SpL sp vs H xs) : EvL (tCall sp [] E ta) σ H xs := el_call h (by rw [List.append_nil]; exact hs)
theorem q_drop1 {sp : Sp} {ta : TA} {vs : List V} (h : EvA ta σ H vs) (k : ∀ H1, Evl.Ex H H1 → sp vs H1 (fun _ H2 => tz D σ H2) E0) : tSeq (tDrop (tCall sp [] E0 ta)) tz D σ H := tcall_of h k
theorem q_call {sp : Sp} {ta : TA} {vs : List V} {i : Nat} (h : EvA ta σ H vs) (k : ∀ H1, Evl.Ex H H1 → sp vs H1 (fun x H2 => tz D (σ.set i (some x)) H2) E0) : tSeq (tAsg (tCall sp [] E0 ta) (gName i)) tz D σ H := tcall_of h k
theorem s_retC {sp : Sp} {ta : TA} {vs : List V} (h : EvA ta σ H vs) (k : ∀ H1, Evl.Ex H H1 → sp vs H1 D.rt E0) : tRet (tCall sp [] E0 ta) D σ H := tcall_of h k
/-- a, b = a pair -/
theorem g_pair {i j : Nat} {tp : Addr} {a b : V} {Qs : L2.St → Hp → Prop} (h : SqT K H tp [a, b]) (k : Qs ((σ.set i (some a)).set j (some b)) H) : gTup K 2 (gCons (gName i) (gCons (gName j) gNil)) (.ref tp) σ H Qs := ⟨tp, [a, b], rfl, h, rfl, a, [b], rfl, b, [], rfl, rfl, k⟩
theorem g_trip {i j l : Nat} {tp : Addr} {a b c : V} {Qs : L2.St → Hp → Prop} (h : SqT K H tp [a, b, c]) (k : Qs (((σ.set i (some a)).set j (some b)).set l (some c)) H) : gTup K 3 (gCons (gName i) (gCons (gName j) (gCons (gName l) gNil))) (.ref tp) σ H Qs := ⟨tp, [a, b, c], rfl, h, rfl, a, [b, c], rfl, b, [c], rfl, c, [], rfl, rfl, k⟩
theorem q_asgG (h : Ev te σ H v) (k : ∀ H1, Evl.Ex H H1 → g v σ H1 (tz D)) : tSeq (tAsg te g) tz D σ H := h H (Evl.Ex.refl H) _ k
theorem s_asgG (h : Ev te σ H v) (k : ∀ H1, Evl.Ex H H1 → g v σ H1 D.nx) : tAsg te g D σ H := h H (Evl.Ex.refl H) _ k
theorem q_callG {sp : Sp} {ta : TA} {vs : List V} (h : EvA ta σ H vs) (k : ∀ H1, Evl.Ex H H1 → sp vs H1 (fun x H2 => g x σ H2 (tz D)) E0) : tSeq (tAsg (tCall sp [] E0 ta) g) tz D σ H := tcall_of h k
/-- for i, x in enumerate(xs) -/
theorem s_forE {a : Addr} {xs : List V} (h : Ev tl σ H (.ref a)) (hx : SqL K H a xs) {i j : Nat} (Pv : Nat → L2.St → Hp → Prop) (h0 : ∀ H1, Evl.Ex H H1 → Pv 0 σ H1) (hl : ∀ i σ' H', i ≤ xs.length → Pv i σ' H' → SqL K H' a xs)
    (hs : ∀ n x tp σ' H', xs[n]? = some x → Pv n σ' H' → H' tp = none → tu { D with nx := Pv (n + 1), ct := Pv (n + 1), bk := D.nx } ((σ'.set i (some (.int (n : Nat)))).set j (some x)) (upd H' tp (.tup [.int (n : Nat), x]))) (hd : ∀ σ' H', Pv xs.length σ' H' → D.nx σ' H') :
    tFor (iEnum K (tCons tl tNil)) (gTup K 2 (gCons (gName i) (gCons (gName j) gNil))) tu D σ H :=
  h H (Evl.Ex.refl H) _ fun H1 e => ⟨a, xs, rfl, ex_l e hx, for_it walk_enum Pv (h0 H1 e) hl (fun n x σ' H' H2 hn p y => by
    obtain ⟨T, y1, y2, rfl, hT, rfl, ey1, ey2⟩ := y
    cases ey1
    exact g_pair (st_of upd_same) (hs n y2 T σ' H' ey2 p hT)) hd⟩
theorem q_forE {a : Addr} {xs : List V} (h : Ev tl σ H (.ref a)) (hx : SqL K H a xs) {i j : Nat} (Pv : Nat → L2.St → Hp → Prop) (h0 : ∀ H1, Evl.Ex H H1 → Pv 0 σ H1) (hl : ∀ i σ' H', i ≤ xs.length → Pv i σ' H' → SqL K H' a xs)
    (hs : ∀ n x tp σ' H', xs[n]? = some x → Pv n σ' H' → H' tp = none → tu { D with nx := Pv (n + 1), ct := Pv (n + 1), bk := tz D } ((σ'.set i (some (.int (n : Nat)))).set j (some x)) (upd H' tp (.tup [.int (n : Nat), x]))) (hd : ∀ σ' H', Pv xs.length σ' H' → tz D σ' H') :
    tSeq (tFor (iEnum K (tCons tl tNil)) (gTup K 2 (gCons (gName i) (gCons (gName j) gNil))) tu) tz D σ H := s_forE (D := { D with nx := tz D }) h hx Pv h0 hl hs hd
theorem s_forNLn {xs : List V} {tl : TE} {j : Nat} (h : EvL tl σ H xs) (Pv : Addr → Nat → L2.St → Hp → Prop) (h0 : ∀ p H1, H p = none → Evl.Ex H H1 → H1 p = some (.lst xs) → Pv p 0 σ H1) (hl : ∀ p i σ' H', i ≤ xs.length → Pv p i σ' H' → SqL K H' p xs)
    (hs : ∀ p i x σ' H', xs[i]? = some x → Pv p i σ' H' → tu { D with nx := Pv p (i + 1), ct := Pv p (i + 1), bk := D.nx } (σ'.set j (some x)) H') (hd : ∀ p σ' H', Pv p xs.length σ' H' → D.nx σ' H') : tFor (iList K tl) (gName j) tu D σ H := s_forNL h Pv h0 hl hs hd
/-- over a new tuple -/
theorem s_forNTn {xs : List V} {tl : TE} {j : Nat} (h : EvU tl σ H xs) (Pv : Addr → Nat → L2.St → Hp → Prop) (h0 : ∀ p H1, H p = none → Evl.Ex H H1 → H1 p = some (.tup xs) → Pv p 0 σ H1) (hl : ∀ p i σ' H', i ≤ xs.length → Pv p i σ' H' → SqT K H' p xs)
    (hs : ∀ p i x σ' H', xs[i]? = some x → Pv p i σ' H' → tu { D with nx := Pv p (i + 1), ct := Pv p (i + 1), bk := D.nx } (σ'.set j (some x)) H') (hd : ∀ p σ' H', Pv p xs.length σ' H' → D.nx σ' H') : tFor (iTup K tl) (gName j) tu D σ H :=
  h H (Evl.Ex.refl H) _ fun p H1 hp e h1 => ⟨p, rfl, ⟨xs, st_of h1⟩, for_tup (Pv p) (h0 p H1 hp e h1) (hl p) (hs p) (hd p)⟩
theorem q_forNTn {xs : List V} {tl : TE} {j : Nat} (h : EvU tl σ H xs) (Pv : Addr → Nat → L2.St → Hp → Prop) (h0 : ∀ p H1, H p = none → Evl.Ex H H1 → H1 p = some (.tup xs) → Pv p 0 σ H1) (hl : ∀ p i σ' H', i ≤ xs.length → Pv p i σ' H' → SqT K H' p xs)
    (hs : ∀ p i x σ' H', xs[i]? = some x → Pv p i σ' H' → tu { D with nx := Pv p (i + 1), ct := Pv p (i + 1), bk := tz D } (σ'.set j (some x)) H') (hd : ∀ p σ' H', Pv p xs.length σ' H' → tz D σ' H') : tSeq (tFor (iTup K tl) (gName j) tu) tz D σ H :=
  s_forNTn (D := { D with nx := tz D }) h Pv h0 hl hs hd
theorem q_asgOp {r : R2} {i : Nat} (h : ta σ H fun x H1 => tb σ H1 fun y H2 => r x y H2 fun z H3 => tz D (σ.set i (some z)) H3) : tSeq (tAsg (tOp r ta tb) (gName i)) tz D σ H := h
theorem q_asgRaw {i : Nat} (h : te σ H fun z H3 => tz D (σ.set i (some z)) H3) : tSeq (tAsg te (gName i)) tz D σ H := h
theorem s_retUV {xs : List V} (h1 : EvU te σ H xs) (h2 : Ev tx σ H v) (k : ∀ t p H2, H t = none → Evl.Ex H H2 → H2 t = some (.tup xs) → H2 p = some (.tup [.ref t, v]) → D.rt (.ref p) H2) : tRet (tTup (tCons te (tCons tx tNil))) D σ H :=
  h1 H (Evl.Ex.refl H) _ fun t H1 ht e1 ht1 => h2 H1 e1 _ fun H2 e2 => ⟨by show 2 ≤ sizeLine; decide, fun p hp => k t p _ ht ((e1.trans e2).trans (Evl.Ex.new hp)) ((Evl.Ex.new hp) _ _ (e2 _ _ ht1)) upd_same⟩
theorem cut_to (ns : List Int) (n : Nat) : cutV (iv ns) none (some (n : Int)) = iv (ns.take n) := by
  unfold cutV
  rw [HT.sIx_none, HT.sIx_nat, List.drop_zero, List.length_map, Nat.sub_zero]
  unfold iv
  rw [← List.map_take]
  congr 1
  rw [← List.take_eq_take_min]
theorem el_rep {l : Nat} {k : Int} {v : V} {k' : Nat} (ha : EvL ta σ H [v]) (hb : Ev tb σ H (.int k)) (h0 : 0 ≤ k) (h1 : k ≤ 1000) : EvL (tOp rRep ta tb) σ H (List.replicate k.toNat v) := fun H1 e Q q =>
  ha H1 e _ fun p H2 hp e2 hl => hb H2 (e.trans e2) _ fun H3 e3 => ⟨p, k, [v], rfl, rfl, e3 _ _ hl, by omega, by omega, sz_of (by show 1 * k.toNat ≤ 100000; omega), fun p2 hp2 => by
    have e4 : (List.replicate k.toNat [v]).flatten = List.replicate k.toNat v := by
      generalize k.toNat = n
      induction n with
      | zero => rfl
      | succ n ih => rw [List.replicate_succ, List.flatten_cons, ih, List.replicate_succ]; rfl
    rw [e4]
    exact q p2 _ (fresh_back (e2.trans e3) hp2) ((e2.trans e3).trans (Evl.Ex.new hp2)) upd_same⟩
theorem el_cat {xs ys : List V} (ha : EvL ta σ H xs) (hb : EvL tb σ H ys) (hz : xs.length + ys.length ≤ 100000) : EvL (tOp rCat ta tb) σ H (xs ++ ys) := fun H1 e Q q =>
  ha H1 e _ fun p H2 hp e2 hl => hb H2 (e.trans e2) _ fun p2 H3 hp2 e3 hl2 => ⟨p, p2, xs, ys, rfl, rfl, e3 _ _ hl, hl2, sz_of hz, fun p3 hp3 => q p3 _ (fresh_back (e2.trans e3) hp3) ((e2.trans e3).trans (Evl.Ex.new hp3)) upd_same⟩
end
end Gp
namespace Gp
open PySem L2 Evl

/-! is_whole: 0 thing -/
abbrev N_is_whole : List Str := ["thing"]
def t_is_whole (K : PySem.W.Frag) : TS :=
  (tRet (tAndV (tCB (rIsi K) (tCons (tVar 0) (tCons (tC (.ty "int")) tNil))) (tNotV (tCB (rIsi K) (tCons (tVar 0) (tCons (tC (.ty "bool")) tNil))))))
/-! is_place: 0 thing 1 many -/
abbrev N_is_place : List Str := ["thing", "many"]
def t_is_place (K : PySem.W.Frag) (sp_is_whole : Sp) : TS :=
  (tRet (tAndV (tCall sp_is_whole [] E0 (tCons (tVar 0) tNil)) (tChain rLe rLt (tC (.int 0)) (tVar 0) (tVar 1))))
/-! are_places: 0 thing 1 many 2 one -/
abbrev N_are_places : List Str := ["thing", "many", "one"]
def t_are_places (K : PySem.W.Frag) (sp_is_place : Sp) : TS :=
  (tSeq (tIfS (tOr (tNot (tB (tCB (rIsi K) (tCons (tVar 0) (tCons (tC (.ty "list")) tNil))))) (tNot (tB (tCB (rAll K) (tCons (tLc (iList K (tVar 0)) (gName 2) tYes (tCall sp_is_place [] E0 (tCons (tVar 2) (tCons (tVar 1) tNil))) [2]) tNil))))) (tRet (tC (.bl false))) tNext)
  (tRet (tOp rEq (tLenSetX K (tVar 0)) (tCB (rLenS K) (tCons (tVar 0) tNil)))))
/-! is_row: 0 thing 1 many 2 player 3 number 4 ways -/
abbrev N_is_row : List Str := ["thing", "many", "player", "number", "ways"]
def t_is_row (K : PySem.W.Frag) (sp_is_place : Sp) (sp_is_whole : Sp) (sp_are_places : Sp) : TS :=
  (tSeq (tIfS (tOr (tNot (tB (tCB (rIsi K) (tCons (tVar 0) (tCons (tC (.ty "tuple")) tNil))))) (tTest (tOp rNe (tCB (rLenS K) (tCons (tVar 0) tNil)) (tC (.int 3))))) (tRet (tC (.bl false))) tNext)
  (tSeq (tAsg (tVar 0) (gTup K 3 (gCons (gName 2) (gCons (gName 3) (gCons (gName 4) gNil)))))
  (tSeq (tIfS (tOr (tNot (tB (tCall sp_is_place [] E0 (tCons (tVar 2) (tCons (tC (.int 2)) tNil))))) (tOr (tNot (tB (tCall sp_is_whole [] E0 (tCons (tVar 3) tNil)))) (tTest (tOp rLt (tVar 3) (tC (.int 0)))))) (tRet (tC (.bl false))) tNext)
  (tRet (tAndV (tCall sp_are_places [] E0 (tCons (tVar 4) (tCons (tVar 1) tNil))) (tOp (rNeD K) (tVar 4) (tLst tNil)))))))
/-! need_game: 0 game 1 place 2 thing -/
abbrev N_need_game : List Str := ["game", "place", "thing"]
def t_need_game (K : PySem.W.Frag) (sp_is_row : Sp) : TS :=
  (tSeq (tIfS (tOr (tNot (tB (tCB (rIsi K) (tCons (tVar 0) (tCons (tC (.ty "list")) tNil))))) (tTest (tOp rGt (tCB (rLenS K) (tCons (tVar 0) tNil)) (tC (.int 40))))) tNever tNext)
  (tFor (iEnum K (tCons (tVar 0) tNil)) (gTup K 2 (gCons (gName 1) (gCons (gName 2) gNil))) (tIfS (tNot (tB (tCall sp_is_row [] E0 (tCons (tVar 2) (tCons (tCB (rLenS K) (tCons (tVar 0) tNil)) tNil))))) tNever tNext)))
/-! drawn_in: 0 game 1 within 2 player 3 goals 4 ranks 5 place 6 steps 7 turn 8 fresh 9 ways 10 near 11 one 12 way -/
abbrev N_drawn_in : List Str := ["game", "within", "player", "goals", "ranks", "place", "steps", "turn", "fresh", "ways", "near", "one", "way"]
def t_drawn_in (K : PySem.W.Frag) : TS :=
  (tSeq (tAsg tDNewK (gName 4))
  (tSeq (tFor (iList K (tVar 3)) (gName 5) (sDPut (tVar 4) (tVar 5) (tC (.int 0))))
  (tSeq (tAsg tDNewK (gName 6))
  (tSeq (tAsg (tC (.int 0)) (gName 7))
  (tSeq (tAsg (tC (.bl true)) (gName 8))
  (tSeq (tWhile (tB (tVar 8)) (tSeq (tAsg (tC (.bl false)) (gName 8))
  (tSeq (tAug 7 (tC (.int 1)) (ipI fun i j => i + j))
  (tFor (iList K (tLc (iList K (tVar 1)) (gName 11) (tB (tDNotIn (tVar 11) (tVar 4))) (tVar 11) [11])) (gName 5) (tSeq (tAsg (tLc (iList K (tOp (rIxT K) (tOp (rIxL K) (tVar 0) (tVar 5)) (tC (.int 2)))) (gName 12) (tTest (tOp (rIn K false) (tVar 12) (tVar 1))) (tVar 12) [12]) (gName 9))
  (tSeq (tAsg (tLc (iList K (tVar 9)) (gName 12) (tTest (tOp rLt (tDGet2 (tVar 4) (tVar 12) (tVar 7)) (tVar 7))) (tVar 12) [12]) (gName 10))
  (tIfS (tAnd (tTest (tOp rEq (tOp (rIxT K) (tOp (rIxL K) (tVar 0) (tVar 5)) (tC (.int 0))) (tVar 2))) (tTest (tOp (rNeD K) (tVar 10) (tLst tNil)))) (tSeq (sDPut (tVar 6) (tVar 5) (tOp (rIxL K) (tVar 10) (tC (.int 0))))
  (tSeq (sDPut (tVar 4) (tVar 5) (tVar 7))
  (tAsg (tC (.bl true)) (gName 8)))) (tIfS (tAnd (tTest (tOp rNe (tOp (rIxT K) (tOp (rIxL K) (tVar 0) (tVar 5)) (tC (.int 0))) (tVar 2))) (tTest (tOp rEq (tCB (rLenS K) (tCons (tVar 10) tNil)) (tCB (rLenS K) (tCons (tVar 9) tNil))))) (tSeq (sDPut (tVar 4) (tVar 5) (tVar 7))
  (tAsg (tC (.bl true)) (gName 8))) tNext))))))))
  (tRet (tTup (tCons (tVar 4) (tCons (tVar 6) tNil))))))))))
/-! parted: 0 game 1 within 2 top 3 player 4 tops 5 near 6 pulls 7 winners 8 steps 9 lost 10 other 11 found 12 led 13 place -/
abbrev N_parted : List Str := ["game", "within", "top", "player", "tops", "near", "pulls", "winners", "steps", "lost", "other", "found", "led", "place"]
def t_parted (K : PySem.W.Frag) (sp_drawn_in : Sp) (sp_parted : Sp) (sp_won_by_all : Sp) : TS :=
  (tSeq (tIfS (tTest (tOp (rEqD K) (tVar 1) (tLst tNil))) (tRet (tTup (tCons tDNewK (tCons tDNewK tNil)))) tNext)
  (tSeq (tAsg (tCB (rMax K) (tCons (tLc (iList K (tVar 1)) (gName 13) tYes (tOp (rIxT K) (tOp (rIxL K) (tVar 0) (tVar 13)) (tC (.int 1))) [13]) tNil)) (gName 2))
  (tSeq (tAsg (tOp rMod (tVar 2) (tC (.int 2))) (gName 3))
  (tSeq (tAsg (tLc (iList K (tVar 1)) (gName 13) (tTest (tOp rEq (tOp (rIxT K) (tOp (rIxL K) (tVar 0) (tVar 13)) (tC (.int 1))) (tVar 2))) (tVar 13) [13]) (gName 4))
  (tSeq (tAsg (tCall sp_drawn_in [] E0 (tCons (tVar 0) (tCons (tVar 1) (tCons (tVar 3) (tCons (tVar 4) tNil))))) (gTup K 2 (gCons (gName 5) (gCons (gName 6) gNil))))
  (tSeq (tAsg (tCall sp_parted [] E0 (tCons (tVar 0) (tCons (tLc (iList K (tVar 1)) (gName 13) (tB (tDNotIn (tVar 13) (tVar 5))) (tVar 13) [13]) tNil))) (gTup K 2 (gCons (gName 7) (gCons (gName 8) gNil))))
  (tSeq (tAsg (tLc (iList K (tVar 1)) (gName 13) (tAnd (tB (tDNotIn (tVar 13) (tVar 5))) (tTest (tOp rNe (tDGet (tVar 7) (tVar 13)) (tVar 3)))) (tVar 13) [13]) (gName 9))
  (tSeq (tIfS (tTest (tOp (rEqD K) (tVar 9) (tLst tNil))) (tRet (tCall sp_won_by_all [] E0 (tCons (tVar 0) (tCons (tVar 1) (tCons (tVar 3) (tCons (tVar 8) (tCons (tVar 6) tNil))))))) tNext)
  (tSeq (tAsg (tOp rSub (tC (.int 1)) (tVar 3)) (gName 10))
  (tSeq (tAsg (tCall sp_drawn_in [] E0 (tCons (tVar 0) (tCons (tVar 1) (tCons (tVar 10) (tCons (tVar 9) tNil))))) (gTup K 2 (gCons (gName 5) (gCons (gName 6) gNil))))
  (tSeq (tAsg (tCall sp_parted [] E0 (tCons (tVar 0) (tCons (tLc (iList K (tVar 1)) (gName 13) (tB (tDNotIn (tVar 13) (tVar 5))) (tVar 13) [13]) tNil))) (gTup K 2 (gCons (gName 11) (gCons (gName 12) gNil))))
  (tSeq (tLock (tFor (iKeys (tVar 5)) (gName 13) (tSeq (sDPut (tVar 11) (tVar 13) (tVar 10))
  (tIfS (tB (tDIn (tVar 13) (tVar 6))) (sDPut (tVar 12) (tVar 13) (tDGet (tVar 6) (tVar 13))) (tIfS (tTest (tOp rEq (tOp (rIxT K) (tOp (rIxL K) (tVar 0) (tVar 13)) (tC (.int 0))) (tVar 10))) (sDPut (tVar 12) (tVar 13) (tDGet (tVar 8) (tVar 13))) tNext)))))
  (tRet (tTup (tCons (tVar 11) (tCons (tVar 12) tNil))))))))))))))))
/-! won_by_all: 0 game 1 within 2 player 3 steps 4 pulls 5 found 6 led 7 place 8 way -/
abbrev N_won_by_all : List Str := ["game", "within", "player", "steps", "pulls", "found", "led", "place", "way"]
def t_won_by_all (K : PySem.W.Frag) : TS :=
  (tSeq (tAsg tDNewK (gName 5))
  (tSeq (tAsg tDNewK (gName 6))
  (tSeq (tFor (iList K (tVar 1)) (gName 7) (tSeq (sDPut (tVar 5) (tVar 7) (tVar 2))
  (tIfS (tAnd (tTest (tOp rEq (tOp (rIxT K) (tOp (rIxL K) (tVar 0) (tVar 7)) (tC (.int 0))) (tVar 2))) (tB (tDIn (tVar 7) (tVar 4)))) (sDPut (tVar 6) (tVar 7) (tDGet (tVar 4) (tVar 7))) (tIfS (tAnd (tTest (tOp rEq (tOp (rIxT K) (tOp (rIxL K) (tVar 0) (tVar 7)) (tC (.int 0))) (tVar 2))) (tB (tDIn (tVar 7) (tVar 3)))) (sDPut (tVar 6) (tVar 7) (tDGet (tVar 3) (tVar 7))) (tIfS (tTest (tOp rEq (tOp (rIxT K) (tOp (rIxL K) (tVar 0) (tVar 7)) (tC (.int 0))) (tVar 2))) (sDPut (tVar 6) (tVar 7) (tOp (rIxL K) (tLc (iList K (tOp (rIxT K) (tOp (rIxL K) (tVar 0) (tVar 7)) (tC (.int 2)))) (gName 8) (tTest (tOp (rIn K false) (tVar 8) (tVar 1))) (tVar 8) [8]) (tC (.int 0)))) tNext)))))
  (tRet (tTup (tCons (tVar 5) (tCons (tVar 6) tNil)))))))
/-! won: 0 game 1 winners 2 place -/
abbrev N_won : List Str := ["game", "winners", "place"]
def t_won (K : PySem.W.Frag) (sp_need_game : Sp) (sp_parted : Sp) : TS :=
  (tSeq (tDrop (tCall sp_need_game [] E0 (tCons (tVar 0) tNil)))
  (tSeq (tAsg (tOp (rIxT K) (tCall sp_parted [] E0 (tCons (tVar 0) (tCons (tLstRg (tRg1 (tCB (rLenS K) (tCons (tVar 0) tNil)))) tNil))) (tC (.int 0))) (gName 1))
  (tRet (tLc (iRng1 (tCons (tCB (rLenS K) (tCons (tVar 0) tNil)) tNil)) (gName 2) tYes (tDGet (tVar 1) (tVar 2)) [2]))))
/-! winning_steps: 0 game 1 steps 2 place -/
abbrev N_winning_steps : List Str := ["game", "steps", "place"]
def t_winning_steps (K : PySem.W.Frag) (sp_need_game : Sp) (sp_parted : Sp) : TS :=
  (tSeq (tDrop (tCall sp_need_game [] E0 (tCons (tVar 0) tNil)))
  (tSeq (tAsg (tOp (rIxT K) (tCall sp_parted [] E0 (tCons (tVar 0) (tCons (tLstRg (tRg1 (tCB (rLenS K) (tCons (tVar 0) tNil)))) tNil))) (tC (.int 1))) (gName 1))
  (tRet (tLc (iRng1 (tCons (tCB (rLenS K) (tCons (tVar 0) tNil)) tNil)) (gName 2) tYes (tDGet1 (tVar 1) (tVar 2)) [2]))))
end Gp
namespace Gp
open PySem L2 Evl
/-! my own short words (tactics of mine under names that the library has) -/
local macro_rules | `(tactic| one_sign) => `(tactic| first | exact Evl.Ex.refl _ | assumption | exact Evl.Ex.new (by assumption) | (refine Evl.Ex.trans ?_ (by assumption); one_sign) | (refine Evl.Ex.trans ?_ (Evl.Ex.new (by assumption)); one_sign))
local macro_rules | `(tactic| one_place) => `(tactic| first | assumption | exact upd_same | (refine Evl.ex_l ?_ (by assumption); one_sign) | (refine Evl.ex_t ?_ (by assumption); one_sign) | (refine Evl.sq_of ?_; one_place) | (refine Evl.st_of ?_; one_place) | (refine (show Evl.Ex _ _ from ?_) _ _ (by assumption); one_sign))
local macro_rules | `(tactic| one_item) => `(tactic| first | ((with_reducible apply ev_var); rfl) | (with_reducible exact ev_c) | assumption | (refine Ev.mono ?_ (by assumption); one_sign) | ((with_reducible apply ev_op) <;> one_item) | (with_reducible exact rv_I0) | ((with_reducible refine rv_mod ?_); omega) | ((with_reducible refine rv_div ?_ ?_) <;> omega) | ((with_reducible refine rv_mulL ?_); omega) | ((with_reducible refine rv_mulR ?_); omega) | ((with_reducible refine rv_pow ?_); decide) | ((with_reducible refine rv_eq ?_); rfl) | ((with_reducible refine rv_ne ?_); rfl) | (with_reducible exact rv_isN) | (with_reducible exact rv_notN) | ((with_reducible apply rv_inI); one_place) | ((with_reducible apply rv_niI); one_place) | ((with_reducible apply rv_ixT) <;> (first | rfl | one_place)) | ((with_reducible apply ev_len) <;> (first | one_item | one_place)) | ((with_reducible apply ev_lenT) <;> (first | one_item | one_place)) | (with_reducible exact ea_nil) | ((with_reducible apply ea_cons) <;> one_item) | ((with_reducible apply et_test); one_item) | ((with_reducible apply et_B); one_item) | (with_reducible exact et_yes) | ((with_reducible apply et_not); one_item) | ((with_reducible apply ev_chain) <;> one_item) | ((with_reducible apply ev_notV); one_item))
/-- the kinds of things that are asked about -/
def Kinds : List String := ["NoneType", "bool", "int", "str", "list", "tuple", "dict"]
def Knd (K : PySem.W.Frag) (H : Hp) (x : V) (n : String) : Prop := TyX K H x (.type n) ∧ n ∈ Kinds
theorem knd_int {K : PySem.W.Frag} {H : Hp} {i : Int} : Knd K H (.int i) "int" := ⟨.base (.int i), by decide⟩
theorem knd_list {K : PySem.W.Frag} {H : Hp} {a : Addr} {xs : List V} (h : SqL K H a xs) : Knd K H (.ref a) "list" := ⟨tyx_list h, by decide⟩
theorem knd_tup {K : PySem.W.Frag} {H : Hp} {a : Addr} {xs : List V} (h : SqT K H a xs) : Knd K H (.ref a) "tuple" := ⟨tyx_tup h, by decide⟩
theorem Knd.mono {K : PySem.W.Frag} {H H' : Hp} {x : V} {n : String} (h : Knd K H x n) (e : Evl.Ex H H') : Knd K H' x n := ⟨TyX.mono e h.1 (fun _ z => nomatch z), h.2⟩
def isInt : V → Bool
  | .int _ => true
  | _ => false
theorem knd_isInt {K : PySem.W.Frag} {H : Hp} {x : V} {n : String} (h : Knd K H x n) : isInt x = decide (n = "int") := by
  obtain ⟨h, hm⟩ := h
  cases h with
  | base b => cases b <;> first | rfl | exact (by decide)
  | _ => first | rfl | exact (by decide)
theorem kind_int {n : String} (h : n ∈ Kinds) : kitB n "int" = some (n == "int" || n == "bool") := by
  simp only [Kinds, List.mem_cons, List.not_mem_nil, or_false] at h
  rcases h with rfl | rfl | rfl | rfl | rfl | rfl | rfl <;> decide +kernel
theorem kind_bool {n : String} (h : n ∈ Kinds) : kitB n "bool" = some (n == "bool") := by
  simp only [Kinds, List.mem_cons, List.not_mem_nil, or_false] at h
  rcases h with rfl | rfl | rfl | rfl | rfl | rfl | rfl <;> decide +kernel
theorem kind_list {n : String} (h : n ∈ Kinds) : kitB n "list" = some (n == "list") := by
  simp only [Kinds, List.mem_cons, List.not_mem_nil, or_false] at h
  rcases h with rfl | rfl | rfl | rfl | rfl | rfl | rfl <;> decide +kernel
theorem kind_tuple {n : String} (h : n ∈ Kinds) : kitB n "tuple" = some (n == "tuple") := by
  simp only [Kinds, List.mem_cons, List.not_mem_nil, or_false] at h
  rcases h with rfl | rfl | rfl | rfl | rfl | rfl | rfl <;> decide +kernel
section
variable {K : PySem.W.Frag}
/-! is_whole -/
def sp_is_whole (K : PySem.W.Frag) : Sp := fun vs H Q _ => ∃ x n, vs = [x] ∧ Knd K H x n ∧ RetV (.bl (isInt x)) H Q
theorem pure_is_whole (vs : List V) (H : Hp) (Q : VK) (E : XK) (h : sp_is_whole K vs H Q E) : t_is_whole K { nx := fun _ H' => Q .non H', rt := Q } (start N_is_whole vs) H := by
  obtain ⟨x, n, rfl, kn, q⟩ := h
  refine s_ret (Ev.to (ev_andV (ev_isi (by one_item) kn.1 (kind_int kn.2)) fun _ => ev_notV (ev_isi (by one_item) kn.1 (kind_bool kn.2))) ?_) q
  rw [knd_isInt kn]
  have := kn.2
  simp only [Kinds, List.mem_cons, List.not_mem_nil, or_false] at this
  rcases this with rfl | rfl | rfl | rfl | rfl | rfl | rfl <;> rfl
theorem SpV.whole {H : Hp} {x : V} {n : String} (h : Knd K H x n) : SpV (sp_is_whole K) [x] H (.bl (isInt x)) := fun H1 e Q q E => ⟨x, n, rfl, h.mono e, q⟩
/-! is_place -/
def isPl (x : V) (m : Int) : Bool := match x with
  | .int i => decide (0 ≤ i) && decide (i < m)
  | _ => false
def sp_is_place (K : PySem.W.Frag) : Sp := fun vs H Q _ => ∃ x n m, vs = [x, .int m] ∧ Knd K H x n ∧ RetV (.bl (isPl x m)) H Q
theorem isPl_not {x : V} {m : Int} (h : isInt x = false) : isPl x m = false := by cases x <;> first | rfl | cases h
theorem pure_is_place (vs : List V) (H : Hp) (Q : VK) (E : XK) (h : sp_is_place K vs H Q E) : t_is_place K (sp_is_whole K) { nx := fun _ H' => Q .non H', rt := Q } (start N_is_place vs) H := by
  obtain ⟨x, n, m, rfl, kn, q⟩ := h
  cases hi : isInt x with
  | true =>
    obtain ⟨i, rfl⟩ : ∃ i, x = .int i := by cases x <;> first | exact ⟨_, rfl⟩ | cases hi
    exact s_ret (ev_andV (a := true) (ev_call0 (by one_item) (SpV.whole kn)) fun _ => by one_item) q
  | false =>
    rw [isPl_not hi] at q
    have e := SpV.whole kn
    rw [hi] at e
    exact s_ret (v := .bl false) (ev_andV (a := false) (b := false) (ev_call0 (by one_item) e) fun z => by cases z) q
theorem SpV.place {H : Hp} {x : V} {n : String} {m : Int} (h : Knd K H x n) : SpV (sp_is_place K) [x, .int m] H (.bl (isPl x m)) := fun H1 e Q q E => ⟨x, n, m, rfl, h.mono e, q⟩
/-! are_places -/
def toI : V → Int
  | .int i => i
  | _ => 0
def areP (xs : List V) (m : Int) : Bool := xs.all (fun x => isPl x m) && decide ((xs.map toI).Nodup)
/-- what is asked of a thing that may be a list -/
def ListP (K : PySem.W.Frag) (H : Hp) (x : V) (f : List V → Bool) (b : Bool) : Prop := ∃ n, Knd K H x n ∧ ((n ≠ "list" ∧ b = false) ∨ ∃ a xs, x = .ref a ∧ SqL K H a xs ∧ xs.length ≤ 4000 ∧ (∀ y ∈ xs, ∃ n, Knd K H y n) ∧ b = f xs)
theorem ListP.mono {H H' : Hp} {x : V} {f : List V → Bool} {b : Bool} (h : ListP K H x f b) (e : Evl.Ex H H') : ListP K H' x f b := by
  obtain ⟨n, kn, h⟩ := h
  refine ⟨n, kn.mono e, ?_⟩
  rcases h with h | ⟨a, xs, h1, h2, h3, h4, h5⟩
  · exact .inl h
  · exact .inr ⟨a, xs, h1, ex_l e h2, h3, fun y hy => by obtain ⟨n, k⟩ := h4 y hy; exact ⟨n, k.mono e⟩, h5⟩
theorem ints_of {xs : List V} {m : Int} (h : xs.all (fun x => isPl x m) = true) : xs = iv (xs.map toI) := by
  unfold iv
  rw [List.map_map]
  have e : xs = xs.map id := (List.map_id xs).symm
  refine Eq.trans e (List.map_congr_left fun x hx => ?_)
  have := List.all_eq_true.mp h x hx
  cases x with
  | int i => rfl
  | _ => cases this
def sp_are_places (K : PySem.W.Frag) : Sp := fun vs H Q _ => ∃ x m b, vs = [x, .int m] ∧ ListP K H x (fun xs => areP xs m) b ∧ RetV (.bl b) H Q
theorem pure_are_places (vs : List V) (H : Hp) (Q : VK) (E : XK) (h : sp_are_places K vs H Q E) : t_are_places K (sp_is_place K) { nx := fun _ H' => Q .non H', rt := Q } (start N_are_places vs) H := by
  obtain ⟨x, m, b, rfl, ⟨n, kn, h⟩, q⟩ := h
  rcases h with ⟨hn, rfl⟩ | ⟨a, xs, rfl, hs, hl, hk, rfl⟩
  · refine q_when (et_or (a := true) (b := false) ?_ fun z => by cases z) (fun _ H1 e1 => s_ret ev_c fun H2 e2 => q.go (e1.trans e2)) (fun z => by cases z)
    have e := ev_isi (ta := tVar 0) (σ := L2.start N_are_places [x, .int m]) (ev_var rfl) kn.1 (kind_list kn.2)
    rw [show (n == "list") = false by simpa using hn] at e
    exact et_not (a := false) (et_B e)
  · have q : RetV (.bl (areP xs m)) H Q := q
    have e := ev_isi (ta := tVar 0) (σ := L2.start N_are_places [.ref a, .int m]) (ev_var rfl) (tyx_list hs) (kind_list (n := "list") (by decide))
    have ev := el_lcV1 (tl := tVar 0) (σ := L2.start N_are_places [.ref a, .int m]) (j := 2) (vs := [2]) (fun x => V.bl (isPl x m)) (ev_var rfl) hs (by omega) (fun _ => rfl) (te := tCall (sp_is_place K) [] E0 (tCons (tVar 2) (tCons (tVar 1) tNil))) (fun y H1 hy e => by
      obtain ⟨n, k⟩ := hk y hy
      exact ev_call0 (by one_item) (SpV.place (k.mono e)))
    have hall : ((xs.map fun x => isPl x m).all id) = xs.all (fun x => isPl x m) := by rw [List.all_map]; rfl
    refine q_when (et_or (a := false) (b := !xs.all (fun x => isPl x m)) (et_not (a := true) (et_B e)) fun _ => et_not (a := xs.all (fun x => isPl x m)) (et_B (Ev.to (ev_all (EvL.to ev (by rw [List.map_map]; rfl))) (by rw [hall])))) (fun z H1 e1 => s_ret ev_c fun H2 e2 => ?_) (fun z H1 e1 => ?_)
    · have q2 := q.go (e1.trans e2)
      have z' : xs.all (fun x => isPl x m) = false := by simpa using z
      unfold areP at q2
      rw [z', Bool.false_and] at q2
      exact q2
    · have z' : xs.all (fun x => isPl x m) = true := by simpa using z
      have hs1 : SqL K H1 a (iv (xs.map toI)) := by rw [← ints_of z']; exact ex_l e1 hs
      refine s_ret (Ev.to (ev_op (ev_lenSet (by one_item) hs1 (by simpa using hl)) (ev_len (by one_item) hs1) (rv_eq rfl)) ?_) fun H2 e2 => q.go (e1.trans e2)
      unfold areP
      rw [z', Bool.true_and]
      have := nUnlike_nodup (ns := xs.map toI)
      by_cases hd : (xs.map toI).Nodup
      · rw [decide_eq_true hd, this.mpr hd]
        simp
      · rw [decide_eq_false hd]
        have h2 : nUnlike (xs.map toI) ≠ (xs.map toI).length := fun z => hd (this.mp z)
        simp at h2 ⊢
        omega
theorem SpV.places {H : Hp} {x : V} {m : Int} {b : Bool} (h : ListP K H x (fun xs => areP xs m) b) : SpV (sp_are_places K) [x, .int m] H (.bl b) := fun H1 e Q q E => ⟨x, m, b, rfl, h.mono e, q⟩
/-! is_row -/
def isNat : V → Bool
  | .int i => decide (0 ≤ i)
  | _ => false
theorem isNat_int {x : V} : isNat x = (isInt x && decide (0 ≤ toI x)) := by cases x <;> rfl
/-- what is asked of a thing that may be a row -/
def RowP (K : PySem.W.Frag) (H : Hp) (x : V) (m : Int) (b : Bool) : Prop := ∃ n, Knd K H x n ∧ ((n ≠ "tuple" ∧ b = false) ∨ ∃ a xs, x = .ref a ∧ SqT K H a xs ∧ ((xs.length ≠ 3 ∧ b = false) ∨
  ∃ p q w b3, xs = [p, q, w] ∧ (∃ n, Knd K H p n) ∧ (∃ n, Knd K H q n) ∧ ListP K H w (fun ys => areP ys m && !ys.isEmpty) b3 ∧ b = (isPl p 2 && isNat q && b3)))
theorem RowP.mono {H H' : Hp} {x : V} {m : Int} {b : Bool} (h : RowP K H x m b) (e : Evl.Ex H H') : RowP K H' x m b := by
  obtain ⟨n, kn, h⟩ := h
  refine ⟨n, kn.mono e, ?_⟩
  rcases h with h | ⟨a, xs, h1, h2, h⟩
  · exact .inl h
  · refine .inr ⟨a, xs, h1, ex_t e h2, ?_⟩
    rcases h with h | ⟨p, q, w, b3, h3, ⟨n1, h4⟩, ⟨n2, h5⟩, h6, h7⟩
    · exact .inl h
    · exact .inr ⟨p, q, w, b3, h3, ⟨n1, h4.mono e⟩, ⟨n2, h5.mono e⟩, h6.mono e, h7⟩
def sp_is_row (K : PySem.W.Frag) : Sp := fun vs H Q _ => ∃ x m b, vs = [x, .int m] ∧ RowP K H x m b ∧ RetV (.bl b) H Q
theorem eqv_nil (ns : List Int) : PyData.eqv (.list (ns.map PyData.int)) (.list []) = ns.isEmpty := by cases ns <;> rfl
theorem shaped_iv (ns : List Int) : SeqAt.shaped (.list (ns.map PyData.int)) = true := by
  induction ns with
  | nil => rfl
  | cons a r ih => exact ih
theorem ev_neNil {σ : L2.St} {H : Hp} {tv : TE} {a : Addr} {ns : List Int} (h : Ev tv σ H (.ref a)) (hs : SqL K H a (iv ns)) : Ev (tOp (rNeD K) tv (tLst tNil)) σ H (.bl (!ns.isEmpty)) :=
  ev_opL h (el_lst ea_nil (by decide)) fun p H1 hp e => by
    have r := rv_neD (dp_iv (ex_l e hs)) (Dp.lst (sq_of hp) .nil) (shaped_iv ns) rfl
    rwa [eqv_nil] at r
theorem ev_eqNil {σ : L2.St} {H : Hp} {tv : TE} {a : Addr} {ns : List Int} (h : Ev tv σ H (.ref a)) (hs : SqL K H a (iv ns)) : Ev (tOp (rEqD K) tv (tLst tNil)) σ H (.bl ns.isEmpty) :=
  ev_opL h (el_lst ea_nil (by decide)) fun p H1 hp e => by
    have r := rv_eqD (dp_iv (ex_l e hs)) (Dp.lst (sq_of hp) .nil) (shaped_iv ns) rfl
    rwa [eqv_nil] at r
theorem pure_is_row (vs : List V) (H : Hp) (Q : VK) (E : XK) (h : sp_is_row K vs H Q E) : t_is_row K (sp_is_place K) (sp_is_whole K) (sp_are_places K) { nx := fun _ H' => Q .non H', rt := Q } (start N_is_row vs) H := by
  obtain ⟨x, m, b, rfl, ⟨n, kn, h⟩, q⟩ := h
  rcases h with ⟨hn, rfl⟩ | ⟨a, xs, rfl, hs, h⟩
  · have e := ev_isi (ta := tVar 0) (σ := L2.start N_is_row [x, .int m]) (ev_var rfl) kn.1 (kind_tuple kn.2)
    rw [show (n == "tuple") = false by simpa using hn] at e
    exact q_when (et_or (a := true) (b := false) (et_not (a := false) (et_B e)) fun z => by cases z) (fun _ H1 e1 => s_ret ev_c fun H2 e2 => q.go (e1.trans e2)) (fun z => by cases z)
  have e := ev_isi (ta := tVar 0) (σ := L2.start N_is_row [.ref a, .int m]) (ev_var rfl) (tyx_tup hs) (kind_tuple (n := "tuple") (by decide))
  rcases h with ⟨h3, rfl⟩ | ⟨p, s, w, b3, rfl, ⟨n1, k1⟩, ⟨n2, k2⟩, hw, rfl⟩
  · exact q_when (et_or (a := false) (b := true) (et_not (a := true) (et_B e)) fun _ => et_test (Ev.to (ev_op (ev_lenT (by one_item) hs) ev_c (rv_ne rfl)) (by
      have : ¬ (V.int (xs.length : Int) = V.int 3) := fun z => h3 (by injection z with z; omega)
      rw [decide_eq_false this]
      rfl))) (fun _ H1 e1 => s_ret ev_c fun H2 e2 => q.go (e1.trans e2)) (fun z => by cases z)
  · refine q_when (et_or (a := false) (b := false) (et_not (a := true) (et_B e)) fun _ => et_test (Ev.to (ev_op (ev_lenT (by one_item) hs) ev_c (rv_ne rfl)) (by simp))) (fun z => by cases z) fun _ H1 e1 => ?_
    refine q_asgG (ev_var (v := .ref a) rfl) fun H2 e2 => g_trip (ex_t (e1.trans e2) hs) ?_
    have e12 := e1.trans e2
    have tP := SpV.place (m := 2) (k1.mono e12)
    have tQ := SpV.whole (k2.mono e12)
    have tst : EvT (tOr (tNot (tB (tCall (sp_is_place K) [] E0 (tCons (tVar 2) (tCons (tC (.int 2)) tNil))))) (tOr (tNot (tB (tCall (sp_is_whole K) [] E0 (tCons (tVar 3) tNil)))) (tTest (tOp rLt (tVar 3) (tC (.int 0))))))
        [some (.ref a), some (.int m), some p, some s, some w] H2 (!(isPl p 2) || !(isNat s)) := by
      refine et_or (et_not (et_B (ev_call0 (by one_item) tP))) fun hp => ?_
      rw [isNat_int]
      cases hi : isInt s with
      | false =>
        rw [hi] at tQ
        exact et_or (a := true) (b := false) (et_not (a := false) (et_B (ev_call0 (by one_item) tQ))) fun z => by cases z
      | true =>
        obtain ⟨i, rfl⟩ : ∃ i, s = .int i := by cases s <;> first | exact ⟨_, rfl⟩ | cases hi
        exact et_or (a := false) (b := !decide (0 ≤ i)) (et_not (a := true) (et_B (ev_call0 (by one_item) tQ))) fun _ => et_test (Ev.to (ev_op (by one_item) ev_c rv_I0) (by
          show V.bl (decide (i < 0)) = V.bl (!decide (0 ≤ i))
          by_cases h : i < 0
          · rw [decide_eq_true h, decide_eq_false (by omega)]; rfl
          · rw [decide_eq_false h, decide_eq_true (by omega)]; rfl))
    refine q_when (σ := [some (.ref a), some (.int m), some p, some s, some w]) tst (fun z H3 e3 => s_ret ev_c fun H4 e4 => ?_) (fun z H3 e3 => ?_)
    · have g := q.go ((e12.trans e3).trans e4)
      have z' : (isPl p 2 && isNat s) = false := by
        cases h1 : isPl p 2 <;> cases h2 : isNat s <;> first | rfl | (rw [h1, h2] at z; cases z)
      rw [z', Bool.false_and] at g
      exact g
    · have z' : (isPl p 2 && isNat s) = true := by
        cases h1 : isPl p 2 <;> cases h2 : isNat s <;> first | rfl | (rw [h1, h2] at z; cases z)
      rw [z', Bool.true_and] at q
      have hw3 := hw.mono (e12.trans e3)
      obtain ⟨n3, kn3, hw3⟩ := hw3
      rcases hw3 with ⟨hn3, rfl⟩ | ⟨c, ys, rfl, hys, hl, hk, rfl⟩
      · exact s_ret (v := .bl false) (ev_andV (a := false) (b := false) (ev_call0 (by one_item) (SpV.places ⟨n3, kn3, .inl ⟨hn3, rfl⟩⟩)) fun z => by cases z) fun H4 e4 => q.go ((e12.trans e3).trans e4)
      · refine s_ret (ev_andV (a := areP ys m) (b := !ys.isEmpty) (ev_call0 (by one_item) (SpV.places ⟨n3, kn3, .inr ⟨c, ys, rfl, hys, hl, hk, rfl⟩⟩)) fun z => ?_) fun H4 e4 => q.go ((e12.trans e3).trans e4)
        have hi : ys.all (fun x => isPl x m) = true := by
          unfold areP at z
          exact (Bool.and_eq_true _ _ ▸ z).1
        have hys' : SqL K H3 c (iv (ys.map toI)) := by rw [← ints_of hi]; exact hys
        have r := ev_neNil (tv := tVar 4) (σ := [some (.ref a), some (.int m), some p, some s, some (.ref c)]) (ev_var rfl) hys'
        exact Ev.to r (by cases ys <;> rfl)
theorem SpV.row {H : Hp} {x : V} {m : Int} {b : Bool} (h : RowP K H x m b) : SpV (sp_is_row K) [x, .int m] H (.bl b) := fun H1 e Q q E => ⟨x, m, b, rfl, h.mono e, q⟩
/-! need_game, of what is a game -/
def sp_need_game (K : PySem.W.Frag) : Sp := fun vs H Q _ => ∃ a xs, vs = [.ref a] ∧ SqL K H a xs ∧ xs.length ≤ 40 ∧ (∀ x ∈ xs, RowP K H x xs.length true) ∧ RetV .non H Q
theorem pure_need_game (vs : List V) (H : Hp) (Q : VK) (E : XK) (h : sp_need_game K vs H Q E) : t_need_game K (sp_is_row K) { nx := fun _ H' => Q .non H', rt := Q } (start N_need_game vs) H := by
  obtain ⟨a, xs, rfl, hs, hl, hr, q⟩ := h
  have e := ev_isi (ta := tVar 0) (σ := L2.start N_need_game [.ref a]) (ev_var rfl) (tyx_list hs) (kind_list (n := "list") (by decide))
  refine q_when (et_or (a := false) (b := false) (et_not (a := true) (et_B e)) fun _ => et_test (Ev.to (ev_op (ev_len (by one_item) hs) ev_c rv_I0) (by
    show V.bl (decide ((40 : Int) < (xs.length : Int))) = V.bl false
    rw [decide_eq_false (by omega)]))) (fun z => by cases z) fun _ H1 e1 => ?_
  refine s_forE (ev_var rfl) (ex_l e1 hs) (fun i σ H' => (∃ u v, σ = [some (.ref a), u, v]) ∧ Evl.Ex H H') (fun H2 e2 => ⟨⟨none, none, rfl⟩, e1.trans e2⟩) (fun i σ H' _ p => ex_l p.2 hs) (fun i y T σ H3 hy p hT => ?_) (fun σ H3 p => q.go p.2)
  obtain ⟨⟨u, v, rfl⟩, e3⟩ := p
  have e4 : Evl.Ex H (upd H3 T (.tup [.int (i : Nat), y])) := e3.trans (Evl.Ex.new hT)
  have hm : y ∈ xs := List.mem_of_getElem? hy
  exact s_when (σ := [some (.ref a), some (.int (i : Nat)), some y]) (et_not (a := true) (et_B (ev_call0 (ea_cons (by one_item) (ea_cons (ev_len (by one_item) (ex_l e4 hs)) ea_nil)) (SpV.row ((hr y hm).mono e4))))) (fun z => by cases z) fun _ H5 e5 => ⟨⟨_, _, rfl⟩, e4.trans e5⟩
end
end Gp
namespace Gp
open PySem L2 Evl
/-! my own short words (tactics of mine under names that the library has) -/
local macro_rules | `(tactic| one_sign) => `(tactic| first | exact Evl.Ex.refl _ | assumption | exact Evl.Ex.new (by assumption) | (refine Evl.Ex.trans ?_ (by assumption); one_sign) | (refine Evl.Ex.trans ?_ (Evl.Ex.new (by assumption)); one_sign))
local macro_rules | `(tactic| one_place) => `(tactic| first | assumption | exact upd_same | (refine Evl.ex_l ?_ (by assumption); one_sign) | (refine Evl.ex_t ?_ (by assumption); one_sign) | (refine Evl.sq_of ?_; one_place) | (refine Evl.st_of ?_; one_place) | (refine (show Evl.Ex _ _ from ?_) _ _ (by assumption); one_sign))
local macro_rules | `(tactic| one_item) => `(tactic| first | ((with_reducible apply ev_var); rfl) | (with_reducible exact ev_c) | assumption | (refine Ev.mono ?_ (by assumption); one_sign) | ((with_reducible apply ev_op) <;> one_item) | (with_reducible exact rv_I0) | ((with_reducible refine rv_mod ?_); omega) | ((with_reducible refine rv_div ?_ ?_) <;> omega) | ((with_reducible refine rv_mulL ?_); omega) | ((with_reducible refine rv_mulR ?_); omega) | ((with_reducible refine rv_pow ?_); decide) | ((with_reducible refine rv_eq ?_); rfl) | ((with_reducible refine rv_ne ?_); rfl) | (with_reducible exact rv_isN) | (with_reducible exact rv_notN) | ((with_reducible apply rv_inI); one_place) | ((with_reducible apply rv_niI); one_place) | ((with_reducible apply rv_ixT) <;> (first | rfl | one_place)) | ((with_reducible apply ev_len) <;> (first | one_item | one_place)) | ((with_reducible apply ev_lenT) <;> (first | one_item | one_place)) | (with_reducible exact ea_nil) | ((with_reducible apply ea_cons) <;> one_item) | ((with_reducible apply et_test); one_item) | ((with_reducible apply et_B); one_item) | (with_reducible exact et_yes) | ((with_reducible apply et_not); one_item) | ((with_reducible apply ev_chain) <;> one_item) | ((with_reducible apply ev_notV); one_item))
/-! ### games in memory -/
abbrev Row := Int × Int × List Int
def rowN (g : List Row) (i : Nat) : Row := g.getD i (0, 0, [])
def gm (g : List Row) : Zk.Gm := ⟨fun p => (rowN g p.toNat).1, fun p => (rowN g p.toNat).2.1, fun p => (rowN g p.toNat).2.2⟩
structure GA (K : PySem.W.Frag) (H : Hp) (a : Addr) (g : List Row) (rt rw : Nat → Addr) : Prop where
  lst : SqL K H a ((List.range g.length).map fun i => V.ref (rt i))
  row : ∀ i, i < g.length → SqT K H (rt i) [.int (rowN g i).1, .int (rowN g i).2.1, .ref (rw i)]
  way : ∀ i, i < g.length → SqL K H (rw i) (iv (rowN g i).2.2)
def Ing (g : List Row) (p : Int) : Prop := 0 ≤ p ∧ p < (g.length : Int)
/-- a game, and small -/
structure OkG (g : List Row) : Prop where
  len : g.length ≤ 40
  own : ∀ i, i < g.length → (rowN g i).1 = 0 ∨ (rowN g i).1 = 1
  num : ∀ i, i < g.length → 0 ≤ (rowN g i).2.1
  ne : ∀ i, i < g.length → (rowN g i).2.2 ≠ []
  nd : ∀ i, i < g.length → (rowN g i).2.2.Nodup
  way : ∀ i, i < g.length → ∀ w ∈ (rowN g i).2.2, Ing g w
  few : ∀ i, i < g.length → (rowN g i).2.2.length ≤ 1000
section
variable {K : PySem.W.Frag} {H H' : Hp} {a : Addr} {g : List Row} {rt rw : Nat → Addr}
theorem GA.mono (G : GA K H a g rt rw) (e : Evl.Ex H H') : GA K H' a g rt rw := ⟨ex_l e G.lst, fun i hi => ex_t e (G.row i hi), fun i hi => ex_l e (G.way i hi)⟩
theorem ing_nat {p : Int} (h : Ing g p) : p.toNat < g.length ∧ ((p.toNat : Nat) : Int) = p := by
  obtain ⟨h1, h2⟩ := h
  omega
theorem GA.at (G : GA K H a g rt rw) {p : Int} (h : Ing g p) : atI ((List.range g.length).map fun i => V.ref (rt i)) p = some (.ref (rt p.toNat)) := by
  obtain ⟨h1, h2⟩ := ing_nat h
  have : ((List.range g.length).map fun i => V.ref (rt i))[p.toNat]? = some (.ref (rt p.toNat)) := by simp [h1]
  have z := atI_nat this
  rwa [h2] at z
variable {σ : L2.St} {tg tp : TE} {p : Int}
theorem ev_row (G : GA K H a g rt rw) (hg : Ev tg σ H (.ref a)) (hp : Ev tp σ H (.int p)) (h : Ing g p) : Ev (tOp (rIxL K) tg tp) σ H (.ref (rt p.toNat)) := ev_op hg hp (rv_ixL G.lst (G.at h))
theorem ev_own (G : GA K H a g rt rw) (hg : Ev tg σ H (.ref a)) (hp : Ev tp σ H (.int p)) (h : Ing g p) : Ev (tOp (rIxT K) (tOp (rIxL K) tg tp) (tC (.int 0))) σ H (.int ((gm g).own p)) := ev_op (ev_row G hg hp h) ev_c (rv_ixT (G.row _ (ing_nat h).1) rfl)
theorem ev_num (G : GA K H a g rt rw) (hg : Ev tg σ H (.ref a)) (hp : Ev tp σ H (.int p)) (h : Ing g p) : Ev (tOp (rIxT K) (tOp (rIxL K) tg tp) (tC (.int 1))) σ H (.int ((gm g).num p)) := ev_op (ev_row G hg hp h) ev_c (rv_ixT (G.row _ (ing_nat h).1) rfl)
theorem ev_ways (G : GA K H a g rt rw) (hg : Ev tg σ H (.ref a)) (hp : Ev tp σ H (.int p)) (h : Ing g p) : Ev (tOp (rIxT K) (tOp (rIxL K) tg tp) (tC (.int 2))) σ H (.ref (rw p.toNat)) := ev_op (ev_row G hg hp h) ev_c (rv_ixT (G.row _ (ing_nat h).1) rfl)
theorem GA.ways (G : GA K H a g rt rw) (h : Ing g p) : SqL K H (rw p.toNat) (iv ((gm g).ways p)) := G.way _ (ing_nat h).1
end
/-! ### dicts of ints, as lists of pairs -/
theorem valV_kd' (d : Zk.AL) (k : Int) : valV (kd d) (Sum.inl k : Key) = (Zk.aget d k).map V.int := valV_kd d k
theorem putK_kd (d : Zk.AL) (k v : Int) : putK (kd d) (Sum.inl k : Key) (V.int v) = kd (Zk.aput d k v) := by
  have e : ((kd d).any fun kv => decide (kv.1 = (Sum.inl k : Key))) = (d.any fun kv => decide (kv.1 = k)) := by
    rw [valV_any, valV_kd', Option.isSome_map, ← Zk.aget_any]
  unfold putK Zk.aput
  rw [e]
  split
  · unfold kd
    rw [List.map_map, List.map_map]
    refine List.map_congr_left fun p _ => ?_
    show (if (Sum.inl p.1 : Key) = Sum.inl k then ((Sum.inl p.1 : Key), V.int v) else (Sum.inl p.1, V.int p.2)) = ((Sum.inl (if p.1 = k then (p.1, v) else p).1 : Key), V.int (if p.1 = k then (p.1, v) else p).2)
    by_cases h : p.1 = k
    · rw [if_pos (by rw [h]), if_pos h]
    · rw [if_neg (fun z => h (Sum.inl.inj z)), if_neg h]
  · unfold kd
    rw [List.map_append]
    rfl
theorem kd_len (d : Zk.AL) : (kd d).length = d.length := List.length_map _
theorem some_kd (d : Zk.AL) (k : Int) : (valV (kd d) (Sum.inl k : Key)).isSome = (Zk.aget d k).isSome := by rw [valV_kd', Option.isSome_map]
theorem getD_kd (d : Zk.AL) (k t : Int) : (valV (kd d) (Sum.inl k : Key)).getD (V.int t) = V.int ((Zk.aget d k).getD t) := by
  rw [valV_kd']
  cases Zk.aget d k <;> rfl
section
variable {K : PySem.W.Frag} {σ : L2.St} {H : Hp} {ty td tx tv : TE} {D : Ends} {tz : TS} {a : Addr} {d : Zk.AL} {k v : Int}
theorem ev_dinI (hy : Ev ty σ H (.int k)) (hd : Ev td σ H (.ref a)) (h : H a = some (.dK (kd d))) : Ev (tDIn ty td) σ H (.bl (Zk.aget d k).isSome) := Ev.to (ev_din (k := Sum.inl k) hy hd h) (by rw [some_kd])
theorem ev_dniI (hy : Ev ty σ H (.int k)) (hd : Ev td σ H (.ref a)) (h : H a = some (.dK (kd d))) : Ev (tDNotIn ty td) σ H (.bl (decide (Zk.aget d k = none))) := Ev.to (ev_dni (k := Sum.inl k) hy hd h) (by
  rw [some_kd]
  cases Zk.aget d k <;> rfl)
theorem ev_dgetI (hd : Ev td σ H (.ref a)) (hy : Ev ty σ H (.int k)) (h : H a = some (.dK (kd d))) (hv : Zk.aget d k = some v) : Ev (tDGet td ty) σ H (.int v) := ev_dget (k := Sum.inl k) hd hy h (by rw [valV_kd', hv]; rfl)
theorem ev_dget2I {t : Int} (hd : Ev td σ H (.ref a)) (hy : Ev ty σ H (.int k)) (hx : Ev tx σ H (.int t)) (h : H a = some (.dK (kd d))) : Ev (tDGet2 td ty tx) σ H (.int ((Zk.aget d k).getD t)) := Ev.to (ev_dget2 (k := Sum.inl k) hd hy hx h) (getD_kd d k t)
theorem s_dputI (hv : Ev tv σ H (.int v)) (hd : Ev td σ H (.ref a)) (hy : Ev ty σ H (.int k)) (h : H a = some (.dK (kd d))) (hl : d.length < 100000) (c : ∀ H1, Evl.Ex H H1 → D.nx σ (upd H1 a (.dK (kd (Zk.aput d k v))))) : sDPut td ty tv D σ H :=
  s_dput (k := Sum.inl k) hv hd hy h (by rwa [kd_len]) fun H1 e => by rw [putK_kd]; exact c H1 e
theorem q_dputI (hv : Ev tv σ H (.int v)) (hd : Ev td σ H (.ref a)) (hy : Ev ty σ H (.int k)) (h : H a = some (.dK (kd d))) (hl : d.length < 100000) (c : ∀ H1, Evl.Ex H H1 → tz D σ (upd H1 a (.dK (kd (Zk.aput d k v))))) : tSeq (sDPut td ty tv) tz D σ H :=
  s_dputI (D := { D with nx := tz D }) hv hd hy h hl c
end
/-- a pair of new dicts comes back -/
def RetDD (d1 d2 : Zk.AL) (H : Hp) (Q : VK) : Prop := ∀ t r s H', Evl.Ex H H' → H r = none → H s = none → r ≠ s → H' t = some (.tup [.ref r, .ref s]) → H' r = some (.dK (kd d1)) → H' s = some (.dK (kd d2)) → Q (.ref t) H'
theorem map_int (ns : List Int) (p : Int → Bool) : (ns.filter p).map (fun n => V.int n) = iv (ns.filter p) := rfl
theorem take_succ_of {α : Type} {l : List α} {i : Nat} {x : α} (h : l[i]? = some x) : l.take (i + 1) = l.take i ++ [x] := by
  obtain ⟨h1, h2⟩ := List.getElem?_eq_some_iff.mp h
  rw [List.take_succ_eq_append_getElem h1, h2]
theorem foldl_take {α β : Type} (f : β → α → β) (b : β) {l : List α} {i : Nat} {x : α} (h : l[i]? = some x) : (l.take (i + 1)).foldl f b = f ((l.take i).foldl f b) x := by
  rw [take_succ_of h, List.foldl_append]
  rfl
theorem iv_at {ns : List Int} {i : Nat} {x : V} (h : (iv ns)[i]? = some x) : ∃ n, ns[i]? = some n ∧ x = .int n := by
  rw [List.getElem?_map] at h
  cases e : ns[i]? with
  | none => rw [e] at h; cases h
  | some n =>
    rw [e] at h
    exact ⟨n, rfl, (Option.some.inj h).symm⟩
section
variable {K : PySem.W.Frag}
/-! ### drawn_in -/
def sp_drawn_in (K : PySem.W.Frag) : Sp := fun vs H Q _ => ∃ a b c g rt rw W P goals, vs = [.ref a, .ref b, .int P, .ref c] ∧ GA K H a g rt rw ∧ OkG g ∧ SqL K H b (iv W) ∧ SqL K H c (iv goals) ∧ W.length ≤ 40 ∧ goals.length ≤ 40 ∧ W.Nodup ∧ (∀ p ∈ W, Ing g p) ∧ (∀ p ∈ goals, p ∈ W) ∧
  RetDD (Zk.drawnS (gm g) W P goals).ranks (Zk.drawnS (gm g) W P goals).steps H Q
theorem pure_drawn_in (vs : List V) (H : Hp) (Q : VK) (E : XK) (h : sp_drawn_in K vs H Q E) : t_drawn_in K { nx := fun _ H' => Q .non H', rt := Q } (start N_drawn_in vs) H := by
  obtain ⟨a, b, c, g, rt, rw, W, P, goals, rfl, G, ok, hb, hc, hW, hgl, hnd, hin, hsub, q⟩ := h
  refine q_newD fun r hr => ?_
  have e1 : Evl.Ex H (upd H r (.dK [])) := Evl.Ex.new hr
  -- for place in goals: ranks[place] = 0
  refine q_forLn (σ := [some (.ref a), some (.ref b), some (.int P), some (.ref c), some (.ref r), none, none, none, none, none, none, none, none]) (ev_var rfl) (ex_l e1 hc)
    (fun i σ H' => (∃ u, σ = [some (.ref a), some (.ref b), some (.int P), some (.ref c), some (.ref r), u, none, none, none, none, none, none, none]) ∧ Evl.Ex H H' ∧ H' r = some (.dK (kd ((goals.take i).foldl (fun d p => Zk.aput d p 0) []))))
    (fun H1 e => ⟨⟨none, rfl⟩, e1.trans e, e _ _ upd_same⟩) (fun i σ H' _ p => ex_l p.2.1 hc) (fun i x σ H1 hx p => ?_) (fun σ H1 p => ?_)
  · obtain ⟨⟨u, rfl⟩, e2, hr1⟩ := p
    obtain ⟨n, hn, rfl⟩ := iv_at hx
    have hi : i < goals.length := (List.getElem?_eq_some_iff.mp hn).1
    have hl := Zk.zero_len (goals.take i) []
    rw [List.length_take] at hl
    refine s_dputI (v := 0) (k := n) ev_c (ev_var rfl) (ev_var rfl) hr1 (Nat.lt_of_le_of_lt hl (by simp only [List.length_nil]; omega)) fun H2 e3 => ⟨⟨_, rfl⟩, Evl.Ex.mut (e2.trans e3) hr, ?_⟩
    rw [upd_same, foldl_take _ _ hn]
  obtain ⟨⟨u, rfl⟩, e2, hr1⟩ := p
  rw [List.length_map, List.take_length] at hr1
  -- steps = {}; turn = 0; fresh = True
  refine q_newD fun s hs => ?_
  have hs0 : H s = none := fresh_back e2 hs
  have hrs : r ≠ s := ne_of_none hr1 hs
  refine q_asg ev_c fun H2 e3 => ?_
  refine q_asg ev_c fun H3 e4 => ?_
  have start_r : H3 r = some (.dK (kd (Zk.dstart goals).ranks)) := e4 _ _ (e3 _ _ (by rw [upd_ne hrs]; exact hr1))
  have start_s : H3 s = some (.dK (kd (Zk.dstart goals).steps)) := e4 _ _ (e3 _ _ upd_same)
  have e34 : Evl.Ex H H3 := ((e2.trans (Evl.Ex.new hs)).trans e3).trans e4
  refine q_while (fun n σ H' => ∃ (t : Int) (S : Zk.DS) (u5 u9 u10 : Option V), σ = [some (.ref a), some (.ref b), some (.int P), some (.ref c), some (.ref r), u5, some (.ref s), some (.int t), some (.bl S.fresh), u9, u10, none, none] ∧
      Evl.Ex H H' ∧ H' r = some (.dK (kd S.ranks)) ∧ H' s = some (.dK (kd S.steps)) ∧ 0 ≤ t ∧ Zk.DInv (gm g) W P goals t S.ranks S.steps ∧ (S.fresh = true → Zk.mu W S.ranks + 1 ≤ n) ∧ Zk.dloop (gm g) W P n t S = Zk.drawnS (gm g) W P goals)
    (W.length + 1) ⟨0, Zk.dstart goals, _, none, none, rfl, e34, start_r, start_s, Int.le_refl _, Zk.dstart_inv hsub, fun _ => by have := Zk.mu_le W (Zk.dstart goals).ranks; omega, rfl⟩ (fun n σ H4 hw => ?_)
  obtain ⟨t, S, u5, u9, u10, rfl, e5, hr4, hs4, ht, inv, hmu, hfin⟩ := hw
  refine ⟨S.fresh, et_B (ev_var rfl), fun hf H5 e6 => ?_, fun hf H5 e6 => ?_⟩
  · -- a round
    cases n with
    | zero => have := hmu hf; omega
    | succ n =>
      refine ⟨fun σ H' => ∃ (t : Int) (S : Zk.DS) (u5 u9 u10 : Option V), σ = [some (.ref a), some (.ref b), some (.int P), some (.ref c), some (.ref r), u5, some (.ref s), some (.int t), some (.bl S.fresh), u9, u10, none, none] ∧
        Evl.Ex H H' ∧ H' r = some (.dK (kd S.ranks)) ∧ H' s = some (.dK (kd S.steps)) ∧ 0 ≤ t ∧ Zk.DInv (gm g) W P goals t S.ranks S.steps ∧ (S.fresh = true → Zk.mu W S.ranks + 1 ≤ n) ∧ Zk.dloop (gm g) W P n t S = Zk.drawnS (gm g) W P goals, fun σ2 H2 h => ⟨n, Nat.lt_succ_self n, h⟩, ?_⟩
      refine q_asg ev_c fun H6 e7 => ?_
      refine q_aug (a := t) (b := 1) rfl ev_c fun H7 e8 => ?_
      have e57 : Evl.Ex H4 H7 := (e6.trans e7).trans e8
      have eH7 : Evl.Ex H H7 := e5.trans e57
      have hr7 := e57 _ _ hr4
      have hs7 := e57 _ _ hs4
      -- the places that are not ranked yet
      have src : EvL (tLc (iList K (tVar 1)) (gName 11) (tB (tDNotIn (tVar 11) (tVar 4))) (tVar 11) [11]) [some (.ref a), some (.ref b), some (.int P), some (.ref c), some (.ref r), u5, some (.ref s), some (.int (t + 1)), some (.bl false), u9, u10, none, none] H7 (iv (Zk.unranked W S.ranks)) :=
        el_lcI (fun n => decide (Zk.aget S.ranks n = none)) V.int (ev_var rfl) (ex_l eH7 hb) (by omega) (fun _ => rfl) (fun n H1 _ e => et_B (ev_dniI (ev_var rfl) (ev_var rfl) (e _ _ hr7))) (fun n H1 _ e _ => ev_var rfl)
      refine s_forNLn src (fun p i σ H' => ∃ (u5 u9 u10 : Option V), σ = [some (.ref a), some (.ref b), some (.int P), some (.ref c), some (.ref r), u5, some (.ref s), some (.int (t + 1)), some (.bl (((Zk.unranked W S.ranks).take i).foldl (Zk.dturn (gm g) W P (t + 1)) ⟨S.ranks, S.steps, false⟩).fresh), u9, u10, none, none] ∧
        Evl.Ex H H' ∧ p ≠ r ∧ p ≠ s ∧ H' p = some (.lst (iv (Zk.unranked W S.ranks))) ∧ H' r = some (.dK (kd (((Zk.unranked W S.ranks).take i).foldl (Zk.dturn (gm g) W P (t + 1)) ⟨S.ranks, S.steps, false⟩).ranks)) ∧ H' s = some (.dK (kd (((Zk.unranked W S.ranks).take i).foldl (Zk.dturn (gm g) W P (t + 1)) ⟨S.ranks, S.steps, false⟩).steps)))
        (fun p H1 hp e hl => ⟨u5, u9, u10, rfl, eH7.trans e, (fresh_at hp hr7).symm, (fresh_at hp hs7).symm, hl, e _ _ hr7, e _ _ hs7⟩) (fun p i σ H' _ h => by
          obtain ⟨_, _, _, _, _, _, _, h, _⟩ := h
          exact sq_of h) (fun p i x σ H8 hx h => ?_) (fun p σ H8 h => ?_)
      · obtain ⟨v5, v9, v10, rfl, e8, hpr, hps, hp8, hr8, hs8⟩ := h
        obtain ⟨m, hm, rfl⟩ := iv_at hx
        have hmW : m ∈ W := (List.mem_filter.mp (List.mem_of_getElem? hm)).1
        have hmg := hin m hmW
        have st := foldl_take (Zk.dturn (gm g) W P (t + 1)) ⟨S.ranks, S.steps, false⟩ hm
        have dinv := (Zk.dfold_inv (G := gm g) (P := P) (goals := goals) (W := W) (t := t + 1) (by omega) ((Zk.unranked W S.ranks).take i) ⟨S.ranks, S.steps, false⟩ ((hnd.sublist List.filter_sublist).sublist (List.take_sublist _ _)) (fun p hp => by
          have := List.mem_filter.mp (List.mem_of_mem_take hp)
          exact ⟨this.1, of_decide_eq_true this.2⟩) (inv.up (by omega))).1
        generalize hS : ((Zk.unranked W S.ranks).take i).foldl (Zk.dturn (gm g) W P (t + 1)) ⟨S.ranks, S.steps, false⟩ = U at st dinv hr8 hs8
        rw [st]
        have hl1 : U.ranks.length < 100000 := by
          have := dinv.len
          omega
        have hl2 : U.steps.length < 100000 := by
          have := dinv.slen
          omega
        have hfew : ((gm g).ways m).length ≤ 1000 := ok.few _ (ing_nat hmg).1
        have Gm := G.mono e8
        -- ways = [way for way in game[place][2] if way in within]
        refine q_asgL (EvL.to (el_lcI (tl := tOp (rIxT K) (tOp (rIxL K) (tVar 0) (tVar 5)) (tC (.int 2))) (ns := (gm g).ways m) (fun n => decide (n ∈ W)) V.int (ev_ways Gm (ev_var rfl) (ev_var rfl) hmg) (Gm.ways hmg) (by omega) (fun _ => rfl) (fun n H1 _ e => et_test (ev_op (ev_var rfl) (ev_var rfl) (rv_inI (ex_l (e8.trans e) hb)))) (fun n H1 _ e _ => ev_var rfl))
          (show _ = iv (Zk.waysIn (gm g) W m) from rfl)) fun w1 H9 hw1 e9 hw9 => ?_
        have hr9 := e9 _ _ hr8
        have hs9 := e9 _ _ hs8
        have hwl : (Zk.waysIn (gm g) W m).length ≤ 1000 := Nat.le_trans (List.length_filter_le _ _) hfew
        -- near = [way for way in ways if ranks.get(way, turn) < turn]
        refine q_asgL (EvL.to (el_lcI (tl := tVar 9) (ns := Zk.waysIn (gm g) W m) (fun n => decide ((Zk.aget U.ranks n).getD (t + 1) < t + 1)) V.int (ev_var rfl) (sq_of hw9) (by omega) (fun _ => rfl) (fun n H1 _ e => et_test (ev_op (ev_dget2I (ev_var rfl) (ev_var rfl) (ev_var rfl) (e _ _ hr9)) (ev_var rfl) rv_I0)) (fun n H1 _ e _ => ev_var rfl))
          (show _ = iv (Zk.nearOf (gm g) W U.ranks (t + 1) m) from rfl)) fun w2 H10 hw2 e10 hw10 => ?_
        have hr10 := e10 _ _ hr9
        have hs10 := e10 _ _ hs9
        have hw1' := e10 _ _ hw9
        have e810 : Evl.Ex H8 H10 := e9.trans e10
        have eH10 : Evl.Ex H H10 := e8.trans e810
        have hp10 := e810 _ _ hp8
        have own10 : ∀ H', Evl.Ex H10 H' → Ev (tOp (rIxT K) (tOp (rIxL K) (tVar 0) (tVar 5)) (tC (.int 0))) [some (.ref a), some (.ref b), some (.int P), some (.ref c), some (.ref r), some (.int m), some (.ref s), some (.int (t + 1)), some (.bl U.fresh), some (.ref w1), some (.ref w2), none, none] H' (.int ((gm g).own m)) := fun H' e => ev_own (G.mono (eH10.trans e)) (ev_var rfl) (ev_var rfl) hmg
        have hif : ∀ b c : Bool, (b && c) = true ↔ b = true ∧ c = true := fun b c => by simp
        refine s_if (σ := [some (.ref a), some (.ref b), some (.int P), some (.ref c), some (.ref r), some (.int m), some (.ref s), some (.int (t + 1)), some (.bl U.fresh), some (.ref w1), some (.ref w2), none, none]) (b := decide ((gm g).own m = P) && !(Zk.nearOf (gm g) W U.ranks (t + 1) m).isEmpty)
          (et_and (et_test (Ev.to (ev_op (own10 _ (Evl.Ex.refl _)) (ev_var rfl) (rv_eq rfl)) (by simp))) fun _ => et_test (ev_neNil (ev_var rfl) (sq_of hw10))) (fun z H11 e11 => ?_) (fun z H11 e11 => ?_)
        · -- the player's own place, with a near way
          have z1 : (gm g).own m = P ∧ Zk.nearOf (gm g) W U.ranks (t + 1) m ≠ [] := by simpa using z
          have hd : Zk.dturn (gm g) W P (t + 1) U m = ⟨Zk.aput U.ranks m (t + 1), Zk.aput U.steps m ((Zk.nearOf (gm g) W U.ranks (t + 1) m).headD 0), true⟩ := by
            unfold Zk.dturn
            rw [if_pos z1]
          rw [hd]
          have hne : (0 : Int) < ((Zk.nearOf (gm g) W U.ranks (t + 1) m).length : Int) := by
            have := List.length_pos_iff.mpr z1.2
            omega
          have hgd : (Zk.nearOf (gm g) W U.ranks (t + 1) m).getD (0 : Int).toNat 0 = (Zk.nearOf (gm g) W U.ranks (t + 1) m).headD 0 := by
            cases Zk.nearOf (gm g) W U.ranks (t + 1) m <;> rfl
          refine q_dputI (v := (Zk.nearOf (gm g) W U.ranks (t + 1) m).headD 0) (k := m) (Ev.to (ev_op (ev_var rfl) ev_c (rv_ixI (sq_of (e11 _ _ hw10)) (by decide) hne)) (by rw [hgd])) (ev_var rfl) (ev_var rfl) (e11 _ _ hs10) hl2 fun H12 e12 => ?_
          have hr12 : (upd H12 s (.dK (kd (Zk.aput U.steps m ((Zk.nearOf (gm g) W U.ranks (t + 1) m).headD 0))))) r = some (.dK (kd U.ranks)) := by
            rw [upd_ne hrs]
            exact e12 _ _ (e11 _ _ hr10)
          refine q_dputI (v := t + 1) (k := m) (ev_var rfl) (ev_var rfl) (ev_var rfl) hr12 hl1 fun H13 e13 => ?_
          refine s_asg ev_c fun H14 e14 => ⟨_, _, _, rfl, ?_, hpr, hps, ?_, ?_, ?_⟩
          · exact (Evl.Ex.mut ((Evl.Ex.mut ((eH10.trans e11).trans e12) hs0).trans e13) hr).trans e14
          · refine e14 _ _ ?_
            rw [upd_ne hpr]
            refine e13 _ _ ?_
            rw [upd_ne hps]
            exact e12 _ _ (e11 _ _ hp10)
          · exact e14 _ _ upd_same
          · refine e14 _ _ ?_
            rw [upd_ne hrs.symm]
            exact e13 _ _ upd_same
        · refine s_if (σ := [some (.ref a), some (.ref b), some (.int P), some (.ref c), some (.ref r), some (.int m), some (.ref s), some (.int (t + 1)), some (.bl U.fresh), some (.ref w1), some (.ref w2), none, none]) (b := (!decide ((gm g).own m = P)) && decide ((Zk.nearOf (gm g) W U.ranks (t + 1) m).length = (Zk.waysIn (gm g) W m).length))
            (et_and (et_test (Ev.to (ev_op (own10 _ e11) (ev_var rfl) (rv_ne rfl)) (by simp))) fun _ => et_test (Ev.to (ev_op (ev_len (ev_var rfl) (sq_of (e11 _ _ hw10))) (ev_len (ev_var rfl) (sq_of (e11 _ _ hw1'))) (rv_eq rfl)) (by simp; omega))) (fun z2 H12 e12 => ?_) (fun z2 H12 e12 => ?_)
          · have z3 : (gm g).own m ≠ P ∧ (Zk.nearOf (gm g) W U.ranks (t + 1) m).length = (Zk.waysIn (gm g) W m).length := by simpa using z2
            have hd : Zk.dturn (gm g) W P (t + 1) U m = ⟨Zk.aput U.ranks m (t + 1), U.steps, true⟩ := by
              unfold Zk.dturn
              rw [if_neg (fun q => z3.1 q.1), if_pos z3]
            rw [hd]
            refine q_dputI (v := t + 1) (k := m) (ev_var rfl) (ev_var rfl) (ev_var rfl) (e12 _ _ (e11 _ _ hr10)) hl1 fun H13 e13 => ?_
            refine s_asg ev_c fun H14 e14 => ⟨_, _, _, rfl, ?_, hpr, hps, ?_, ?_, ?_⟩
            · exact (Evl.Ex.mut (((eH10.trans e11).trans e12).trans e13) hr).trans e14
            · refine e14 _ _ ?_
              rw [upd_ne hpr]
              exact e13 _ _ (e12 _ _ (e11 _ _ hp10))
            · exact e14 _ _ upd_same
            · refine e14 _ _ ?_
              rw [upd_ne hrs.symm]
              exact e13 _ _ (e12 _ _ (e11 _ _ hs10))
          · have z1 : ¬ ((gm g).own m = P ∧ Zk.nearOf (gm g) W U.ranks (t + 1) m ≠ []) := fun q => by
              have : (decide ((gm g).own m = P) && !(Zk.nearOf (gm g) W U.ranks (t + 1) m).isEmpty) = true := by simpa using q
              rw [this] at z
              cases z
            have z3 : ¬ ((gm g).own m ≠ P ∧ (Zk.nearOf (gm g) W U.ranks (t + 1) m).length = (Zk.waysIn (gm g) W m).length) := fun q => by
              have : ((!decide ((gm g).own m = P)) && decide ((Zk.nearOf (gm g) W U.ranks (t + 1) m).length = (Zk.waysIn (gm g) W m).length)) = true := by simpa using q
              rw [this] at z2
              cases z2
            have hd : Zk.dturn (gm g) W P (t + 1) U m = U := by
              unfold Zk.dturn
              rw [if_neg z1, if_neg z3]
            rw [hd]
            exact ⟨_, _, _, rfl, (eH10.trans e11).trans e12, hpr, hps, e12 _ _ (e11 _ _ hp10), e12 _ _ (e11 _ _ hr10), e12 _ _ (e11 _ _ hs10)⟩
      · obtain ⟨v5, v9, v10, rfl, e8, _, _, _, hr8, hs8⟩ := h
        rw [List.length_map, List.take_length] at hr8 hs8 ⊢
        have nx := Zk.dround_inv hnd ht inv
        refine ⟨t + 1, Zk.dround (gm g) W P (t + 1) S, v5, v9, v10, rfl, e8, hr8, hs8, by omega, nx.1, fun z => ?_, ?_⟩
        · have := nx.2 z
          have := hmu hf
          omega
        · rw [← hfin]
          show _ = (if S.fresh = true then _ else _)
          rw [if_pos hf]
  · -- the end
    refine s_retU (eu_tup (ea_cons (ev_var rfl) (ea_cons (ev_var rfl) ea_nil)) (by show 2 ≤ 100000; decide)) fun tp H6 _ e7 htp => ?_
    have e := e6.trans e7
    have hS : Zk.drawnS (gm g) W P goals = S := by
      rw [← hfin]
      cases n with
      | zero => rfl
      | succ n =>
        show (if S.fresh = true then _ else _) = S
        rw [if_neg (by rw [hf]; decide)]
    rw [hS] at q
    exact q tp r s H6 (e5.trans e) hr hs0 hrs htp (e _ _ hr4) (e _ _ hs4)
end
end Gp
namespace Gp
open PySem L2 Evl
/-! my own short words (tactics of mine under names that the library has) -/
local macro_rules | `(tactic| one_sign) => `(tactic| first | exact Evl.Ex.refl _ | assumption | exact Evl.Ex.new (by assumption) | (refine Evl.Ex.trans ?_ (by assumption); one_sign) | (refine Evl.Ex.trans ?_ (Evl.Ex.new (by assumption)); one_sign))
local macro_rules | `(tactic| one_place) => `(tactic| first | assumption | exact upd_same | (refine Evl.ex_l ?_ (by assumption); one_sign) | (refine Evl.ex_t ?_ (by assumption); one_sign) | (refine Evl.sq_of ?_; one_place) | (refine Evl.st_of ?_; one_place) | (refine (show Evl.Ex _ _ from ?_) _ _ (by assumption); one_sign))
local macro_rules | `(tactic| one_item) => `(tactic| first | ((with_reducible apply ev_var); rfl) | (with_reducible exact ev_c) | assumption | (refine Ev.mono ?_ (by assumption); one_sign) | ((with_reducible apply ev_op) <;> one_item) | (with_reducible exact rv_I0) | ((with_reducible refine rv_mod ?_); omega) | ((with_reducible refine rv_div ?_ ?_) <;> omega) | ((with_reducible refine rv_mulL ?_); omega) | ((with_reducible refine rv_mulR ?_); omega) | ((with_reducible refine rv_pow ?_); decide) | ((with_reducible refine rv_eq ?_); rfl) | ((with_reducible refine rv_ne ?_); rfl) | (with_reducible exact rv_isN) | (with_reducible exact rv_notN) | ((with_reducible apply rv_inI); one_place) | ((with_reducible apply rv_niI); one_place) | ((with_reducible apply rv_ixT) <;> (first | rfl | one_place)) | ((with_reducible apply ev_len) <;> (first | one_item | one_place)) | ((with_reducible apply ev_lenT) <;> (first | one_item | one_place)) | (with_reducible exact ea_nil) | ((with_reducible apply ea_cons) <;> one_item) | ((with_reducible apply et_test); one_item) | ((with_reducible apply et_B); one_item) | (with_reducible exact et_yes) | ((with_reducible apply et_not); one_item) | ((with_reducible apply ev_chain) <;> one_item) | ((with_reducible apply ev_notV); one_item))
/-- for k in d, d standing still -/
theorem q_forKeys {σ : L2.St} {H : Hp} {D : Ends} {tu tz : TS} {d : Addr} {kvs : List (Key × V)} {i j : Nat} (hv : σ[i]? = some (some (.ref d))) (h : H d = some (.dK kvs)) (Pv : Obj → Nat → L2.St → Hp → Prop) (h0 : ∀ od, Pv od 0 σ (upd H d (.frz od (.dK kvs))))
    (hG : ∀ od n σ' H', n ≤ kvs.length → Pv od n σ' H' → H' d = some (.frz od (.dK kvs)))
    (hs : ∀ (rt : VK) (bk : L2.St → Hp → Prop) od n k v σ' H', kvs[n]? = some (k, v) → Pv od n σ' H' → tu { nx := Pv od (n + 1), rt := rt, bk := bk, ct := Pv od (n + 1) } (σ'.set j (some (kV k))) H')
    (hd : ∀ od σ' H', Pv od kvs.length σ' H' → tz D σ' (upd H' d (.dK kvs))) : tSeq (tLock (tFor (iKeys (tVar i)) (gName j) tu)) tz D σ H :=
  ⟨d, .dK kvs, h, trivial, fun od => ⟨.ref d, hv, d, od, rfl, .inl ⟨kvs, upd_same, for_it walk_keys (Pv od) (h0 od) (hG od) (fun n x σ' H' H2 hn p y => by
    obtain ⟨e, k, v, hk, rfl⟩ := y
    subst e
    exact hs _ _ od n k v σ' _ hk p) (fun σ' H' p => ⟨hG od _ σ' H' (Nat.le_refl _) p, hd od σ' H' p⟩)⟩⟩⟩
section
variable {K : PySem.W.Frag}
theorem allOne_len (G : Zk.Gm) (W : List Int) (P : Int) (steps pulls : Zk.AL) (s : Zk.AL × Zk.AL) (p : Int) : (Zk.allOne G W P steps pulls s p).1.length ≤ s.1.length + 1 ∧ (Zk.allOne G W P steps pulls s p).2.length ≤ s.2.length + 1 := by
  unfold Zk.allOne
  refine ⟨Zk.aput_len _ _ _, ?_⟩
  dsimp only
  split
  · split
    · exact Zk.aput_len _ _ _
    · split
      · exact Zk.aput_len _ _ _
      · exact Zk.aput_len _ _ _
  · omega
theorem all_len (G : Zk.Gm) (W : List Int) (P : Int) (steps pulls : Zk.AL) : ∀ (l : List Int) (s : Zk.AL × Zk.AL), (l.foldl (Zk.allOne G W P steps pulls) s).1.length ≤ s.1.length + l.length ∧ (l.foldl (Zk.allOne G W P steps pulls) s).2.length ≤ s.2.length + l.length
  | [], s => ⟨Nat.le_refl _, Nat.le_refl _⟩
  | p :: l, s => by
    have h1 := allOne_len G W P steps pulls s p
    have h2 := all_len G W P steps pulls l (Zk.allOne G W P steps pulls s p)
    show (l.foldl (Zk.allOne G W P steps pulls) (Zk.allOne G W P steps pulls s p)).1.length ≤ _ ∧ (l.foldl (Zk.allOne G W P steps pulls) (Zk.allOne G W P steps pulls s p)).2.length ≤ _
    rw [List.length_cons]
    omega
theorem lostOne_len (G : Zk.Gm) (O : Int) (steps pulls : Zk.AL) (s : Zk.AL × Zk.AL) (p : Int) : (Zk.lostOne G O steps pulls s p).1.length ≤ s.1.length + 1 ∧ (Zk.lostOne G O steps pulls s p).2.length ≤ s.2.length + 1 := by
  unfold Zk.lostOne
  refine ⟨Zk.aput_len _ _ _, ?_⟩
  dsimp only
  split
  · exact Zk.aput_len _ _ _
  · split
    · exact Zk.aput_len _ _ _
    · omega
theorem lost_len (G : Zk.Gm) (O : Int) (steps pulls : Zk.AL) : ∀ (l : List Int) (s : Zk.AL × Zk.AL), (l.foldl (Zk.lostOne G O steps pulls) s).1.length ≤ s.1.length + l.length ∧ (l.foldl (Zk.lostOne G O steps pulls) s).2.length ≤ s.2.length + l.length
  | [], s => ⟨Nat.le_refl _, Nat.le_refl _⟩
  | p :: l, s => by
    have h1 := lostOne_len G O steps pulls s p
    have h2 := lost_len G O steps pulls l (Zk.lostOne G O steps pulls s p)
    show (l.foldl (Zk.lostOne G O steps pulls) (Zk.lostOne G O steps pulls s p)).1.length ≤ _ ∧ (l.foldl (Zk.lostOne G O steps pulls) (Zk.lostOne G O steps pulls s p)).2.length ≤ _
    rw [List.length_cons]
    omega
/-! won_by_all -/
def sp_won_by_all (K : PySem.W.Frag) : Sp := fun vs H Q _ => ∃ a b g rt rw W P d3 d4 steps pulls, vs = [.ref a, .ref b, .int P, .ref d3, .ref d4] ∧ GA K H a g rt rw ∧ OkG g ∧ SqL K H b (iv W) ∧ W.length ≤ 40 ∧ (∀ p ∈ W, Ing g p) ∧ H d3 = some (.dK (kd steps)) ∧ H d4 = some (.dK (kd pulls)) ∧
  (∀ p ∈ W, Zk.waysIn (gm g) W p ≠ []) ∧ RetDD (Zk.wonAll (gm g) W P steps pulls).1 (Zk.wonAll (gm g) W P steps pulls).2 H Q
theorem pure_won_by_all (vs : List V) (H : Hp) (Q : VK) (E : XK) (h : sp_won_by_all K vs H Q E) : t_won_by_all K { nx := fun _ H' => Q .non H', rt := Q } (start N_won_by_all vs) H := by
  obtain ⟨a, b, g, rt, rw, W, P, d3, d4, steps, pulls, rfl, G, ok, hb, hW, hin, h3, h4, hne, q⟩ := h
  refine q_newD fun f hf => ?_
  have e1 : Evl.Ex H (upd H f (.dK [])) := Evl.Ex.new hf
  refine q_newD fun l hl => ?_
  have hl0 : H l = none := fresh_back e1 hl
  have hfl : f ≠ l := by
    intro z
    subst z
    rw [upd_same] at hl
    cases hl
  have e2 : Evl.Ex H (upd (upd H f (.dK [])) l (.dK [])) := e1.trans (Evl.Ex.new hl)
  refine q_forLn (σ := [some (.ref a), some (.ref b), some (.int P), some (.ref d3), some (.ref d4), some (.ref f), some (.ref l), none, none]) (ev_var rfl) (ex_l e2 hb)
    (fun i σ H' => (∃ u, σ = [some (.ref a), some (.ref b), some (.int P), some (.ref d3), some (.ref d4), some (.ref f), some (.ref l), u, none]) ∧ Evl.Ex H H' ∧ H' f = some (.dK (kd ((W.take i).foldl (Zk.allOne (gm g) W P steps pulls) ([], [])).1)) ∧ H' l = some (.dK (kd ((W.take i).foldl (Zk.allOne (gm g) W P steps pulls) ([], [])).2)))
    (fun H1 e => ⟨⟨none, rfl⟩, e2.trans e, e _ _ (by rw [upd_ne hfl]; exact upd_same), e _ _ upd_same⟩) (fun i σ H' _ p => ex_l p.2.1 hb) (fun i x σ H1 hx p => ?_) (fun σ H1 p => ?_)
  · obtain ⟨⟨u, rfl⟩, e3, hf1, hl1⟩ := p
    obtain ⟨m, hm, rfl⟩ := iv_at hx
    have hmW : m ∈ W := List.mem_of_getElem? hm
    have hmg := hin m hmW
    have hi : i < W.length := (List.getElem?_eq_some_iff.mp hm).1
    have st := foldl_take (Zk.allOne (gm g) W P steps pulls) ([], []) hm
    have hln := all_len (gm g) W P steps pulls (W.take i) ([], [])
    generalize (W.take i).foldl (Zk.allOne (gm g) W P steps pulls) ([], []) = U at st hln hf1 hl1
    rw [st]
    have hn1 : U.1.length < 100000 := Nat.lt_of_le_of_lt hln.1 (by simp only [List.length_nil, List.length_take]; omega)
    have hn2 : U.2.length < 100000 := Nat.lt_of_le_of_lt hln.2 (by simp only [List.length_nil, List.length_take]; omega)
    refine q_dputI (v := P) (k := m) (ev_var rfl) (ev_var rfl) (ev_var rfl) hf1 hn1 fun H2 e4 => ?_
    have e5 : Evl.Ex H (upd H2 f (.dK (kd (Zk.aput U.1 m P)))) := Evl.Ex.mut (e3.trans e4) hf
    have hl2 : (upd H2 f (.dK (kd (Zk.aput U.1 m P)))) l = some (.dK (kd U.2)) := by
      rw [upd_ne hfl.symm]
      exact e4 _ _ hl1
    have hf2 : (upd H2 f (.dK (kd (Zk.aput U.1 m P)))) f = some (.dK (kd (Zk.aput U.1 m P))) := upd_same
    generalize (upd H2 f (.dK (kd (Zk.aput U.1 m P)))) = H3 at e5 hl2 hf2 ⊢
    have own3 : ∀ H', Evl.Ex H3 H' → Ev (tOp (rIxT K) (tOp (rIxL K) (tVar 0) (tVar 7)) (tC (.int 0))) [some (.ref a), some (.ref b), some (.int P), some (.ref d3), some (.ref d4), some (.ref f), some (.ref l), some (.int m), none] H' (.int ((gm g).own m)) := fun H' e => ev_own (G.mono (e5.trans e)) (ev_var rfl) (ev_var rfl) hmg
    have tst : ∀ H', Evl.Ex H3 H' → EvT (tTest (tOp rEq (tOp (rIxT K) (tOp (rIxL K) (tVar 0) (tVar 7)) (tC (.int 0))) (tVar 2))) [some (.ref a), some (.ref b), some (.int P), some (.ref d3), some (.ref d4), some (.ref f), some (.ref l), some (.int m), none] H' (decide ((gm g).own m = P)) := fun H' e => et_test (Ev.to (ev_op (own3 _ e) (ev_var rfl) (rv_eq rfl)) (by simp))
    -- what the turn leaves
    have fin : ∀ (q : Int) (H' : Hp), Evl.Ex H3 H' → Zk.allOne (gm g) W P steps pulls U m = (Zk.aput U.1 m P, Zk.aput U.2 m q) →
        ((∃ u, ([some (.ref a), some (.ref b), some (.int P), some (.ref d3), some (.ref d4), some (.ref f), some (.ref l), some (.int m), none] : L2.St) = [some (.ref a), some (.ref b), some (.int P), some (.ref d3), some (.ref d4), some (.ref f), some (.ref l), u, none]) ∧ Evl.Ex H (upd H' l (.dK (kd (Zk.aput U.2 m q)))) ∧
          (upd H' l (.dK (kd (Zk.aput U.2 m q)))) f = some (.dK (kd (Zk.allOne (gm g) W P steps pulls U m).1)) ∧ (upd H' l (.dK (kd (Zk.aput U.2 m q)))) l = some (.dK (kd (Zk.allOne (gm g) W P steps pulls U m).2))) := fun q H' e hq => by
      rw [hq]
      refine ⟨⟨_, rfl⟩, Evl.Ex.mut (e5.trans e) hl0, ?_, upd_same⟩
      rw [upd_ne hfl]
      exact e _ _ hf2
    refine s_if (b := decide ((gm g).own m = P) && (Zk.aget pulls m).isSome) (et_and (tst _ (Evl.Ex.refl _)) fun _ => et_B (ev_dinI (ev_var rfl) (ev_var rfl) (e5 _ _ h4))) (fun z H4 e6 => ?_) (fun z H4 e6 => ?_)
    · have z1 : (gm g).own m = P ∧ (Zk.aget pulls m).isSome = true := by simpa using z
      obtain ⟨y, hy⟩ := Option.isSome_iff_exists.mp z1.2
      refine s_dputI (v := y) (k := m) (ev_dgetI (ev_var rfl) (ev_var rfl) ((e5.trans e6) _ _ h4) hy) (ev_var rfl) (ev_var rfl) (e6 _ _ hl2) hn2 fun H5 e7 => ?_
      refine fin y H5 (e6.trans e7) ?_
      unfold Zk.allOne
      rw [if_pos z1.1, hy]
    · refine s_if (b := decide ((gm g).own m = P) && (Zk.aget steps m).isSome) (et_and (tst _ e6) fun _ => et_B (ev_dinI (ev_var rfl) (ev_var rfl) ((e5.trans e6) _ _ h3))) (fun z2 H5 e7 => ?_) (fun z2 H5 e7 => ?_)
      · have z1 : (gm g).own m = P ∧ (Zk.aget steps m).isSome = true := by simpa using z2
        have zp : Zk.aget pulls m = none := by
          rw [decide_eq_true z1.1, Bool.true_and] at z
          cases hh : Zk.aget pulls m with
          | none => rfl
          | some y => rw [hh] at z; cases z
        obtain ⟨y, hy⟩ := Option.isSome_iff_exists.mp z1.2
        refine s_dputI (v := y) (k := m) (ev_dgetI (ev_var rfl) (ev_var rfl) (((e5.trans e6).trans e7) _ _ h3) hy) (ev_var rfl) (ev_var rfl) (e7 _ _ (e6 _ _ hl2)) hn2 fun H6 e8 => ?_
        refine fin y H6 ((e6.trans e7).trans e8) ?_
        unfold Zk.allOne
        rw [if_pos z1.1, zp, hy]
      · refine s_if (b := decide ((gm g).own m = P)) (tst _ (e6.trans e7)) (fun z3 H6 e8 => ?_) (fun z3 H6 e8 => ?_)
        · have z1 : (gm g).own m = P := of_decide_eq_true z3
          have zp : Zk.aget pulls m = none := by
            rw [decide_eq_true z1, Bool.true_and] at z
            cases hh : Zk.aget pulls m with
            | none => rfl
            | some y => rw [hh] at z; cases z
          have zs : Zk.aget steps m = none := by
            rw [decide_eq_true z1, Bool.true_and] at z2
            cases hh : Zk.aget steps m with
            | none => rfl
            | some y => rw [hh] at z2; cases z2
          have e68 : Evl.Ex H3 H6 := (e6.trans e7).trans e8
          have Gm := G.mono (e5.trans e68)
          have hfew : ((gm g).ways m).length ≤ 1000 := ok.few _ (ing_nat hmg).1
          have src := EvL.to (el_lcI (K := K) (tl := tOp (rIxT K) (tOp (rIxL K) (tVar 0) (tVar 7)) (tC (.int 2))) (σ := [some (.ref a), some (.ref b), some (.int P), some (.ref d3), some (.ref d4), some (.ref f), some (.ref l), some (.int m), none]) (j := 8) (vs := [8]) (t := tTest (tOp (rIn K false) (tVar 8) (tVar 1))) (te := tVar 8) (ns := (gm g).ways m) (fun n => decide (n ∈ W)) V.int (ev_ways Gm (ev_var rfl) (ev_var rfl) hmg) (Gm.ways hmg) (by omega) (fun _ => rfl) (fun n H1 _ e => et_test (ev_op (ev_var rfl) (ev_var rfl) (rv_inI (ex_l ((e5.trans e68).trans e) hb)))) (fun n H1 _ e _ => ev_var rfl))
            (show _ = iv (Zk.waysIn (gm g) W m) from rfl)
          have hpos : (0 : Int) < ((Zk.waysIn (gm g) W m).length : Int) := by
            have := List.length_pos_iff.mpr (hne m hmW)
            omega
          have hgd : (Zk.waysIn (gm g) W m).getD (0 : Int).toNat 0 = (Zk.waysIn (gm g) W m).headD 0 := by
            cases Zk.waysIn (gm g) W m <;> rfl
          refine s_dputI (v := (Zk.waysIn (gm g) W m).headD 0) (k := m) (Ev.to (ev_opL1 src (fun H' e => ev_c) fun p H' hp e => rv_ixI (sq_of hp) (by decide) hpos) (by rw [hgd])) (ev_var rfl) (ev_var rfl) (e68 _ _ hl2) hn2 fun H7 e9 => ?_
          refine fin _ H7 (e68.trans e9) ?_
          unfold Zk.allOne
          rw [if_pos z1, zp, zs]
        · have z1 : ¬ (gm g).own m = P := of_decide_eq_false z3
          have hq : Zk.allOne (gm g) W P steps pulls U m = (Zk.aput U.1 m P, U.2) := by
            unfold Zk.allOne
            rw [if_neg z1]
          rw [hq]
          have e68 : Evl.Ex H3 H6 := (e6.trans e7).trans e8
          exact ⟨⟨_, rfl⟩, e5.trans e68, e68 _ _ hf2, e68 _ _ hl2⟩
  · obtain ⟨⟨u, rfl⟩, e3, hf1, hl1⟩ := p
    rw [List.length_map, List.take_length] at hf1 hl1
    exact s_retU (eu_tup (ea_cons (ev_var rfl) (ea_cons (ev_var rfl) ea_nil)) (by show 2 ≤ 100000; decide)) fun tp H6 _ e7 htp => q tp f l H6 (e3.trans e7) hf hl0 hfl htp (e7 _ _ hf1) (e7 _ _ hl1)
end
end Gp
namespace Gp
open PySem L2 Evl
section
variable {K : PySem.W.Frag} {σ : L2.St} {H : Hp} {ta te : TE} {x : V} {D : Ends} {tz : TS} {g : TG}
theorem q_callGL {sp : Sp} {xs : List V} (h1 : Ev ta σ H x) (h2 : EvL te σ H xs) (k : ∀ p H2, H p = none → Evl.Ex H H2 → H2 p = some (.lst xs) → sp [x, .ref p] H2 (fun y H3 => g y σ H3 (tz D)) E0) : tSeq (tAsg (tCall sp [] E0 (tCons ta (tCons te tNil))) g) tz D σ H :=
  h1 H (Evl.Ex.refl H) _ fun H1 e1 => h2 H1 e1 _ fun p H2 hp e2 hl => k p H2 (fresh_back e1 hp) (e1.trans e2) hl
end
section
variable {K : PySem.W.Frag}
theorem wf_len (w w' : Nat) (h : w' < w) : w' * (w' + 1) + 2 * w ≤ w * (w + 1) := by
  obtain ⟨v, rfl⟩ : ∃ v, w = v + 1 := ⟨w - 1, by omega⟩
  have h1 : w' * (w' + 1) ≤ v * (v + 1) := Nat.mul_le_mul (by omega) (by omega)
  have h2 : (v + 1) * (v + 1 + 1) = v * (v + 1) + 2 * (v + 1) := by
    rw [Nat.mul_add (v + 1) (v + 1) 1, Nat.add_mul v 1 (v + 1)]
    omega
  omega
theorem partedF_len0 (G : Zk.Gm) : ∀ (n : Nat) (W : List Int), W.Nodup → (Zk.partedF G n W).1.length ≤ W.length * (W.length + 1) ∧ (Zk.partedF G n W).2.length ≤ W.length * (W.length + 1)
  | 0, W, _ => ⟨Nat.zero_le _, Nat.zero_le _⟩
  | n + 1, W, hnd => by
    unfold Zk.partedF
    by_cases e : W = []
    · rw [if_pos e]
      exact ⟨Nat.zero_le _, Nat.zero_le _⟩
    · rw [if_neg e]
      generalize Zk.partedF G n (Zk.sub1 G W) = r
      show (if Zk.lostOf G W r.1 = [] then _ else _ : Zk.AL × Zk.AL).1.length ≤ _ ∧ (if Zk.lostOf G W r.1 = [] then _ else _ : Zk.AL × Zk.AL).2.length ≤ _
      by_cases hl : Zk.lostOf G W r.1 = []
      · rw [if_pos hl]
        have h := all_len G W (Zk.topOf G W % 2) r.2 (Zk.drawn1 G W).steps W ([], [])
        have h1 : W.length ≤ W.length * (W.length + 1) := Nat.le_mul_of_pos_right _ (Nat.succ_pos _)
        have z : ([] : Zk.AL).length = 0 := rfl
        unfold Zk.wonAll
        simp only [List.length_nil] at h
        omega
      · rw [if_neg hl]
        have h := lost_len G (1 - Zk.topOf G W % 2) r.2 (Zk.drawn2 G W r.1).steps ((Zk.drawn2 G W r.1).ranks.map (·.1)) (Zk.partedF G n (Zk.sub2 G W r.1))
        have ih := partedF_len0 G n (Zk.sub2 G W r.1) (hnd.sublist List.filter_sublist)
        have lt := Zk.sub2_lt (G := G) hnd hl
        have w := wf_len _ _ lt
        obtain ⟨tt, dinv⟩ := (Zk.drawn_ok (G := G) (P := 1 - Zk.topOf G W % 2) hnd (goals := Zk.lostOf G W r.1) fun p hp => (Zk.mem_lost.mp hp).1).1
        have h1 := dinv.len
        have h2 : (Zk.lostOf G W r.1).length ≤ W.length := List.length_filter_le _ _
        have h3 : (Zk.drawn2 G W r.1).ranks.length ≤ 2 * W.length := by
          have z : (Zk.drawn2 G W r.1).ranks = (Zk.drawnS G W (1 - Zk.topOf G W % 2) (Zk.lostOf G W r.1)).ranks := rfl
          rw [z]
          omega
        rw [List.length_map] at h
        omega
theorem partedF_len (G : Zk.Gm) (n : Nat) (W : List Int) (h : W.length ≤ 40) (hnd : W.Nodup) : (Zk.partedF G n W).1.length ≤ 10000 ∧ (Zk.partedF G n W).2.length ≤ 10000 := by
  have h1 := partedF_len0 G n W hnd
  have h2 : W.length * (W.length + 1) ≤ 40 * 41 := Nat.mul_le_mul h (by omega)
  omega
theorem tot_ways {G : Zk.Gm} {W : List Int} (h : Zk.Tot G (· ∈ W)) : ∀ p ∈ W, Zk.waysIn G W p ≠ [] := fun p hp z => by
  obtain ⟨q, h1, h2⟩ := h p hp
  have : q ∈ Zk.waysIn G W p := List.mem_filter.mpr ⟨h1, decide_eq_true h2⟩
  rw [z] at this
  cases this
/-! parted -/
def sp_parted (K : PySem.W.Frag) (n : Nat) : Sp := fun vs H Q _ => ∃ a b g rt rw W, vs = [.ref a, .ref b] ∧ GA K H a g rt rw ∧ OkG g ∧ SqL K H b (iv W) ∧ W.length ≤ n ∧ W.length ≤ 40 ∧ W.Nodup ∧ (∀ p ∈ W, Ing g p) ∧ Zk.Tot (gm g) (· ∈ W) ∧
  RetDD (Zk.partedF (gm g) n W).1 (Zk.partedF (gm g) n W).2 H Q
theorem pure_parted0 (spx : Sp) (vs : List V) (H : Hp) (Q : VK) (E : XK) (h : sp_parted K 0 vs H Q E) : t_parted K (sp_drawn_in K) spx (sp_won_by_all K) { nx := fun _ H' => Q .non H', rt := Q } (start N_parted vs) H := by
  obtain ⟨a, b, g, rt, rw, W, rfl, G, ok, hb, hn, hW, hnd, hin, ht, q⟩ := h
  have e : W = [] := List.length_eq_zero_iff.mp (by omega)
  subst e
  refine q_when (σ := [some (.ref a), some (.ref b), none, none, none, none, none, none, none, none, none, none, none, none]) (ev_eqNil (ev_var rfl) hb |> et_test) (fun _ H1 e1 => ?_) (fun z => by cases z)
  refine fun r hr => fun s hs => ⟨by show 2 ≤ sizeLine; decide, fun t ht => ?_⟩
  have hs1 : H1 s = none := fresh_back (Evl.Ex.new hr) hs
  have hrs : r ≠ s := fun z => by
    rw [← z, upd_same] at hs
    cases hs
  have e2 : Evl.Ex H1 (upd (upd (upd H1 r (.dK [])) s (.dK [])) t (.tup [.ref r, .ref s])) := ((Evl.Ex.new hr).trans (Evl.Ex.new hs)).trans (Evl.Ex.new ht)
  exact q t r s _ (e1.trans e2) (fresh_back e1 hr) (fresh_back e1 hs1) hrs upd_same ((Evl.Ex.new ht) _ _ (by rw [upd_ne hrs]; exact upd_same)) ((Evl.Ex.new ht) _ _ upd_same)
theorem pure_parted (n : Nat) (vs : List V) (H : Hp) (Q : VK) (E : XK) (h : sp_parted K (n + 1) vs H Q E) : t_parted K (sp_drawn_in K) (sp_parted K n) (sp_won_by_all K) { nx := fun _ H' => Q .non H', rt := Q } (start N_parted vs) H := by
  obtain ⟨a, b, g, rt, rw, W, rfl, G, ok, hb, hn, hW, hnd, hin, ht, q⟩ := h
  have own01 : ∀ p, p ∈ W → (gm g).own p = 0 ∨ (gm g).own p = 1 := fun p hp => ok.own _ (ing_nat (hin p hp)).1
  refine q_when (σ := [some (.ref a), some (.ref b), none, none, none, none, none, none, none, none, none, none, none, none]) (ev_eqNil (ev_var rfl) hb |> et_test) (fun z H1 e1 => ?_) (fun z H1 e1 => ?_)
  · have eW : W = [] := List.isEmpty_iff.mp z
    subst eW
    refine fun r hr => fun s hs => ⟨by show 2 ≤ sizeLine; decide, fun t ht => ?_⟩
    have hs1 : H1 s = none := fresh_back (Evl.Ex.new hr) hs
    have hrs : r ≠ s := fun z => by
      rw [← z, upd_same] at hs
      cases hs
    have e2 : Evl.Ex H1 (upd (upd (upd H1 r (.dK [])) s (.dK [])) t (.tup [.ref r, .ref s])) := ((Evl.Ex.new hr).trans (Evl.Ex.new hs)).trans (Evl.Ex.new ht)
    exact q t r s _ (e1.trans e2) (fresh_back e1 hr) (fresh_back e1 hs1) hrs upd_same ((Evl.Ex.new ht) _ _ (by rw [upd_ne hrs]; exact upd_same)) ((Evl.Ex.new ht) _ _ upd_same)
  have hW0 : W ≠ [] := fun z2 => by rw [z2] at z; cases z
  -- top = max([game[place][1] for place in within])
  have hmax : ∀ k, k ∈ W.map (gm g).num → (∀ y ∈ W.map (gm g).num, y ≤ k) → k = Zk.topOf (gm g) W := fun k h1 h2 => (Zk.maxL_eq h1 h2).symm
  have src1 : EvL (tLc (iList K (tVar 1)) (gName 13) tYes (tOp (rIxT K) (tOp (rIxL K) (tVar 0) (tVar 13)) (tC (.int 1))) [13]) [some (.ref a), some (.ref b), none, none, none, none, none, none, none, none, none, none, none, none] H1 (iv (W.map (gm g).num)) :=
    EvL.to (el_lcI1 (tl := tVar 1) (ns := W) (fun p => V.int ((gm g).num p)) (ev_var rfl) (ex_l e1 hb) (by omega) (fun _ => rfl) fun p H2 hp e => ev_num (G.mono (e1.trans e)) (ev_var rfl) (ev_var rfl) (hin p hp)) (by unfold iv; rw [List.map_map]; rfl)
  refine q_asg (ev_maxN src1 (by simpa using hW0) hmax) fun H2 e2 => ?_
  generalize htop : Zk.topOf (gm g) W = top
  refine q_asg (σ := [some (.ref a), some (.ref b), some (.int top), none, none, none, none, none, none, none, none, none, none, none]) (ev_op (ev_var rfl) ev_c (rv_mod (by decide))) fun H3 e3 => ?_
  have eH3 : Evl.Ex H H3 := (e1.trans e2).trans e3
  -- tops
  refine q_asgL (σ := [some (.ref a), some (.ref b), some (.int top), some (.int (top % 2)), none, none, none, none, none, none, none, none, none, none]) (EvL.to (el_lcI (tl := tVar 1) (ns := W) (fun p => decide ((gm g).num p = top)) V.int (ev_var rfl) (ex_l eH3 hb) (by omega) (fun _ => rfl) (fun p H' hp e => et_test (Ev.to (ev_op (ev_num (G.mono (eH3.trans e)) (ev_var rfl) (ev_var rfl) (hin p hp)) (ev_var rfl) (rv_eq rfl)) (by simp))) (fun p H' _ e _ => ev_var rfl))
    (show _ = iv (Zk.topsOf (gm g) W) by unfold Zk.topsOf; rw [htop])) fun ta H4 hta e4 hta4 => ?_
  have eH4 := eH3.trans e4
  -- near, pulls = drawn_in(game, within, player, tops)
  refine q_callG (σ := [some (.ref a), some (.ref b), some (.int top), some (.int (top % 2)), some (.ref ta), none, none, none, none, none, none, none, none, none]) (vs := [.ref a, .ref b, .int (top % 2), .ref ta]) (ea_cons (ev_var rfl) (ea_cons (ev_var rfl) (ea_cons (ev_var rfl) (ea_cons (ev_var rfl) ea_nil)))) fun H5 e5 => ?_
  have hd1 : Zk.drawnS (gm g) W (top % 2) (Zk.topsOf (gm g) W) = Zk.drawn1 (gm g) W := by unfold Zk.drawn1; rw [htop]
  refine ⟨a, b, ta, g, rt, rw, W, top % 2, Zk.topsOf (gm g) W, rfl, G.mono (eH4.trans e5), ok, ex_l (eH4.trans e5) hb, sq_of (e5 _ _ hta4), hW, Nat.le_trans (List.length_filter_le _ _) hW, hnd, hin, fun p hp => (Zk.mem_tops.mp hp).1, ?_⟩
  rw [hd1]
  intro t1 n1 p1 H6 e6 hn1 hp1 hnp1 ht1 hn1d hp1d
  refine g_pair (st_of ht1) ?_
  have eH6 : Evl.Ex H H6 := (eH4.trans e5).trans e6
  have n1H : H n1 = none := fresh_back (eH4.trans e5) hn1
  have p1H : H p1 = none := fresh_back (eH4.trans e5) hp1
  have a1 := Zk.drawn1_att (G := gm g) hnd
  -- winners, steps = parted(game, the places that are not near)
  have src2 : EvL (tLc (iList K (tVar 1)) (gName 13) (tB (tDNotIn (tVar 13) (tVar 5))) (tVar 13) [13]) [some (.ref a), some (.ref b), some (.int top), some (.int (top % 2)), some (.ref ta), some (.ref n1), some (.ref p1), none, none, none, none, none, none, none] H6 (iv (Zk.sub1 (gm g) W)) :=
    el_lcI (tl := tVar 1) (ns := W) (fun p => decide (Zk.aget (Zk.drawn1 (gm g) W).ranks p = none)) V.int (ev_var rfl) (ex_l eH6 hb) (by omega) (fun _ => rfl) (fun p H' _ e => et_B (ev_dniI (ev_var rfl) (ev_var rfl) (e _ _ hn1d))) (fun p H' _ e _ => ev_var rfl)
  refine q_callGL (σ := [some (.ref a), some (.ref b), some (.int top), some (.int (top % 2)), some (.ref ta), some (.ref n1), some (.ref p1), none, none, none, none, none, none, none]) (ev_var rfl) src2 fun c1 H7 hc1 e7 hc1d => ?_
  have eH7 := eH6.trans e7
  have s1lt := Zk.sub1_lt (G := gm g) hnd hW0
  have t1tot : Zk.Tot (gm g) (· ∈ Zk.sub1 (gm g) W) := fun p hp => by
    obtain ⟨y, h1, h2, h3⟩ := a1.tot ht p (Zk.mem_sub1.mp hp)
    exact ⟨y, h1, Zk.mem_sub1.mpr ⟨h2, h3⟩⟩
  have P1 := Zk.parted_ok (G := gm g) n (Zk.sub1 (gm g) W) (hnd.sublist List.filter_sublist) (by omega) t1tot (fun p hp => own01 p (Zk.mem_sub1.mp hp).1)
  refine ⟨a, c1, g, rt, rw, Zk.sub1 (gm g) W, rfl, G.mono eH7, ok, sq_of hc1d, by omega, by omega, hnd.sublist List.filter_sublist, fun p hp => hin p (Zk.mem_sub1.mp hp).1, t1tot, ?_⟩
  have qq : RetDD (if Zk.lostOf (gm g) W (Zk.partedF (gm g) n (Zk.sub1 (gm g) W)).1 = [] then Zk.wonAll (gm g) W (top % 2) (Zk.partedF (gm g) n (Zk.sub1 (gm g) W)).2 (Zk.drawn1 (gm g) W).steps
      else ((Zk.drawn2 (gm g) W (Zk.partedF (gm g) n (Zk.sub1 (gm g) W)).1).ranks.map (·.1)).foldl (Zk.lostOne (gm g) (1 - top % 2) (Zk.partedF (gm g) n (Zk.sub1 (gm g) W)).2 (Zk.drawn2 (gm g) W (Zk.partedF (gm g) n (Zk.sub1 (gm g) W)).1).steps) (Zk.partedF (gm g) n (Zk.sub2 (gm g) W (Zk.partedF (gm g) n (Zk.sub1 (gm g) W)).1))).1
      (if Zk.lostOf (gm g) W (Zk.partedF (gm g) n (Zk.sub1 (gm g) W)).1 = [] then Zk.wonAll (gm g) W (top % 2) (Zk.partedF (gm g) n (Zk.sub1 (gm g) W)).2 (Zk.drawn1 (gm g) W).steps
      else ((Zk.drawn2 (gm g) W (Zk.partedF (gm g) n (Zk.sub1 (gm g) W)).1).ranks.map (·.1)).foldl (Zk.lostOne (gm g) (1 - top % 2) (Zk.partedF (gm g) n (Zk.sub1 (gm g) W)).2 (Zk.drawn2 (gm g) W (Zk.partedF (gm g) n (Zk.sub1 (gm g) W)).1).steps) (Zk.partedF (gm g) n (Zk.sub2 (gm g) W (Zk.partedF (gm g) n (Zk.sub1 (gm g) W)).1))).2 H Q := by
    have z := q
    unfold Zk.partedF at z
    rw [if_neg hW0, htop] at z
    exact z
  clear q
  generalize Zk.partedF (gm g) n (Zk.sub1 (gm g) W) = r at P1 qq ⊢
  intro t2 w1 z1 H8 e8 hw1 hz1 hwz1 ht2 hw1d hz1d
  refine g_pair (st_of ht2) ?_
  have eH8 := eH7.trans e8
  have e68 : Evl.Ex H6 H8 := e7.trans e8
  have w1H : H w1 = none := fresh_back eH7 hw1
  have z1H : H z1 = none := fresh_back eH7 hz1
  -- lost
  have src3 : EvL (tLc (iList K (tVar 1)) (gName 13) (tAnd (tB (tDNotIn (tVar 13) (tVar 5))) (tTest (tOp rNe (tDGet (tVar 7) (tVar 13)) (tVar 3)))) (tVar 13) [13]) [some (.ref a), some (.ref b), some (.int top), some (.int (top % 2)), some (.ref ta), some (.ref n1), some (.ref p1), some (.ref w1), some (.ref z1), none, none, none, none, none] H8 (iv (Zk.lostOf (gm g) W r.1)) := by
    have z := el_lcI (K := K) (tl := tVar 1) (σ := [some (.ref a), some (.ref b), some (.int top), some (.int (top % 2)), some (.ref ta), some (.ref n1), some (.ref p1), some (.ref w1), some (.ref z1), none, none, none, none, none]) (H := H8) (j := 13) (vs := [13]) (te := tVar 13) (t := tAnd (tB (tDNotIn (tVar 13) (tVar 5))) (tTest (tOp rNe (tDGet (tVar 7) (tVar 13)) (tVar 3)))) (ns := W) (fun p => decide (Zk.aget (Zk.drawn1 (gm g) W).ranks p = none) && !decide (Zk.aget r.1 p = some (top % 2))) V.int (ev_var rfl) (ex_l eH8 hb) (by omega) (fun _ => rfl)
      (fun p H' hp e => et_and (et_B (ev_dniI (ev_var rfl) (ev_var rfl) (e _ _ (e68 _ _ hn1d)))) fun hnone => by
        have hr : Zk.aget r.1 p ≠ none := (P1.dom p).mpr (Zk.mem_sub1.mpr ⟨hp, of_decide_eq_true hnone⟩)
        cases hv : Zk.aget r.1 p with
        | none => exact absurd hv hr
        | some v => exact et_test (Ev.to (ev_op (ev_dgetI (ev_var rfl) (ev_var rfl) (e _ _ hw1d) hv) (ev_var rfl) (rv_ne rfl)) (by simp)))
      (fun p H' _ e _ => ev_var rfl)
    unfold Zk.lostOf
    rw [htop]
    exact z
  refine q_asgL (σ := [some (.ref a), some (.ref b), some (.int top), some (.int (top % 2)), some (.ref ta), some (.ref n1), some (.ref p1), some (.ref w1), some (.ref z1), none, none, none, none, none]) src3 fun l1 H9 hl1 e9 hl1d => ?_
  have eH9 := eH8.trans e9
  refine q_when (σ := [some (.ref a), some (.ref b), some (.int top), some (.int (top % 2)), some (.ref ta), some (.ref n1), some (.ref p1), some (.ref w1), some (.ref z1), some (.ref l1), none, none, none, none]) (ev_eqNil (ev_var rfl) (sq_of hl1d) |> et_test) (fun zl H10 e10 => ?_) (fun zl H10 e10 => ?_)
  · -- all are the player's
    have el : Zk.lostOf (gm g) W r.1 = [] := List.isEmpty_iff.mp zl
    rw [if_pos el] at qq
    refine s_retC (σ := [some (.ref a), some (.ref b), some (.int top), some (.int (top % 2)), some (.ref ta), some (.ref n1), some (.ref p1), some (.ref w1), some (.ref z1), some (.ref l1), none, none, none, none]) (vs := [.ref a, .ref b, .int (top % 2), .ref z1, .ref p1]) (ea_cons (ev_var rfl) (ea_cons (ev_var rfl) (ea_cons (ev_var rfl) (ea_cons (ev_var rfl) (ea_cons (ev_var rfl) ea_nil))))) fun H11 e11 => ?_
    have e9b := (e9.trans e10).trans e11
    have eH11 : Evl.Ex H H11 := eH8.trans e9b
    refine ⟨a, b, g, rt, rw, W, top % 2, z1, p1, r.2, (Zk.drawn1 (gm g) W).steps, rfl, G.mono eH11, ok, ex_l eH11 hb, hW, hin, e9b _ _ hz1d, e9b _ _ (e68 _ _ hp1d), tot_ways ht, ?_⟩
    intro t r' s H12 e12 hr' hs' hrs ht' hd1' hd2'
    exact qq t r' s H12 (eH11.trans e12) (fresh_back eH11 hr') (fresh_back eH11 hs') hrs ht' hd1' hd2'
  have el : Zk.lostOf (gm g) W r.1 ≠ [] := fun z => by rw [z] at zl; cases zl
  rw [if_neg el] at qq
  refine q_asg (σ := [some (.ref a), some (.ref b), some (.int top), some (.int (top % 2)), some (.ref ta), some (.ref n1), some (.ref p1), some (.ref w1), some (.ref z1), some (.ref l1), none, none, none, none]) (ev_op ev_c (ev_var rfl) rv_I0) fun H11 e11 => ?_
  have e9b := (e9.trans e10).trans e11
  have eH11 : Evl.Ex H H11 := eH8.trans e9b
  -- near, pulls = drawn_in(game, within, other, lost)
  refine q_callG (σ := [some (.ref a), some (.ref b), some (.int top), some (.int (top % 2)), some (.ref ta), some (.ref n1), some (.ref p1), some (.ref w1), some (.ref z1), some (.ref l1), some (.int (1 - top % 2)), none, none, none]) (vs := [.ref a, .ref b, .int (1 - top % 2), .ref l1]) (ea_cons (ev_var rfl) (ea_cons (ev_var rfl) (ea_cons (ev_var rfl) (ea_cons (ev_var rfl) ea_nil)))) fun H12 e12 => ?_
  have hd2 : Zk.drawnS (gm g) W (1 - top % 2) (Zk.lostOf (gm g) W r.1) = Zk.drawn2 (gm g) W r.1 := by unfold Zk.drawn2; rw [htop]
  have a2 := Zk.drawn2_att (G := gm g) hnd r.1
  rw [htop] at a2
  refine ⟨a, b, l1, g, rt, rw, W, 1 - top % 2, Zk.lostOf (gm g) W r.1, rfl, G.mono (eH11.trans e12), ok, ex_l (eH11.trans e12) hb, sq_of (e12 _ _ (e11 _ _ (e10 _ _ hl1d))), hW, Nat.le_trans (List.length_filter_le _ _) hW, hnd, hin, fun p hp => (Zk.mem_lost.mp hp).1, ?_⟩
  rw [hd2]
  intro t3 n2 p2 H13 e13 hn2 hp2 hnp2 ht3 hn2d hp2d
  refine g_pair (st_of ht3) ?_
  have eH13 : Evl.Ex H H13 := (eH11.trans e12).trans e13
  have n2H : H n2 = none := fresh_back (eH11.trans e12) hn2
  have p2H : H p2 = none := fresh_back (eH11.trans e12) hp2
  have e813 : Evl.Ex H8 H13 := (e9b.trans e12).trans e13
  -- found, led = parted(game, ..)
  have src4 : EvL (tLc (iList K (tVar 1)) (gName 13) (tB (tDNotIn (tVar 13) (tVar 5))) (tVar 13) [13]) [some (.ref a), some (.ref b), some (.int top), some (.int (top % 2)), some (.ref ta), some (.ref n2), some (.ref p2), some (.ref w1), some (.ref z1), some (.ref l1), some (.int (1 - top % 2)), none, none, none] H13 (iv (Zk.sub2 (gm g) W r.1)) :=
    el_lcI (tl := tVar 1) (ns := W) (fun p => decide (Zk.aget (Zk.drawn2 (gm g) W r.1).ranks p = none)) V.int (ev_var rfl) (ex_l eH13 hb) (by omega) (fun _ => rfl) (fun p H' _ e => et_B (ev_dniI (ev_var rfl) (ev_var rfl) (e _ _ hn2d))) (fun p H' _ e _ => ev_var rfl)
  refine q_callGL (σ := [some (.ref a), some (.ref b), some (.int top), some (.int (top % 2)), some (.ref ta), some (.ref n2), some (.ref p2), some (.ref w1), some (.ref z1), some (.ref l1), some (.int (1 - top % 2)), none, none, none]) (ev_var rfl) src4 fun c2 H14 hc2 e14 hc2d => ?_
  have eH14 := eH13.trans e14
  have s2lt := Zk.sub2_lt (G := gm g) hnd el
  have t2tot : Zk.Tot (gm g) (· ∈ Zk.sub2 (gm g) W r.1) := fun p hp => by
    obtain ⟨y, h1, h2, h3⟩ := a2.tot ht p (Zk.mem_sub2.mp hp)
    exact ⟨y, h1, Zk.mem_sub2.mpr ⟨h2, h3⟩⟩
  refine ⟨a, c2, g, rt, rw, Zk.sub2 (gm g) W r.1, rfl, G.mono eH14, ok, sq_of hc2d, by omega, by omega, hnd.sublist List.filter_sublist, fun p hp => hin p (Zk.mem_sub2.mp hp).1, t2tot, ?_⟩
  generalize hr2 : Zk.partedF (gm g) n (Zk.sub2 (gm g) W r.1) = r2 at qq ⊢
  intro t4 f2 d2 H15 e15 hf2 hd2' hfd2 ht4 hf2d hd2d
  refine g_pair (st_of ht4) ?_
  have eH15 := eH14.trans e15
  have f2H : H f2 = none := fresh_back eH14 hf2
  have d2H : H d2 = none := fresh_back eH14 hd2'
  have hn2' : H15 n2 = some (.dK (kd (Zk.drawn2 (gm g) W r.1).ranks)) := e15 _ _ (e14 _ _ hn2d)
  have hp2' : H15 p2 = some (.dK (kd (Zk.drawn2 (gm g) W r.1).steps)) := e15 _ _ (e14 _ _ hp2d)
  have hz1' : H15 z1 = some (.dK (kd r.2)) := e15 _ _ (e14 _ _ (e813 _ _ hz1d))
  have nf : n2 ≠ f2 := fresh_at hf2 (e14 _ _ hn2d)
  have nd : n2 ≠ d2 := fresh_at hd2' (e14 _ _ hn2d)
  have pf : p2 ≠ f2 := fresh_at hf2 (e14 _ _ hp2d)
  have pd : p2 ≠ d2 := fresh_at hd2' (e14 _ _ hp2d)
  have zf : z1 ≠ f2 := fresh_at hf2 (e14 _ _ (e813 _ _ hz1d))
  have zd : z1 ≠ d2 := fresh_at hd2' (e14 _ _ (e813 _ _ hz1d))
  have zn : z1 ≠ n2 := fresh_at hn2 ((e9b.trans e12) _ _ hz1d)
  -- for place in near
  have klen : (kd (Zk.drawn2 (gm g) W r.1).ranks).length = ((Zk.drawn2 (gm g) W r.1).ranks.map (·.1)).length := by rw [kd_len, List.length_map]
  have P2 := (Zk.drawn_ok (G := gm g) (P := 1 - top % 2) hnd (goals := Zk.lostOf (gm g) W r.1) fun p hp => (Zk.mem_lost.mp hp).1).1
  rw [hd2] at P2
  obtain ⟨tt, dinv⟩ := P2
  have nlen : (Zk.drawn2 (gm g) W r.1).ranks.length ≤ 80 := by
    have h1 := dinv.len
    have h2 : (Zk.lostOf (gm g) W r.1).length ≤ W.length := List.length_filter_le _ _
    omega
  have flen : r2.1.length ≤ 10000 ∧ r2.2.length ≤ 10000 := by
    rw [← hr2]
    exact partedF_len (gm g) n _ (by omega) (hnd.sublist List.filter_sublist)
  refine q_forKeys (σ := [some (.ref a), some (.ref b), some (.int top), some (.int (top % 2)), some (.ref ta), some (.ref n2), some (.ref p2), some (.ref w1), some (.ref z1), some (.ref l1), some (.int (1 - top % 2)), some (.ref f2), some (.ref d2), none]) rfl hn2' (fun od i σ H' => (∃ u, σ = [some (.ref a), some (.ref b), some (.int top), some (.int (top % 2)), some (.ref ta), some (.ref n2), some (.ref p2), some (.ref w1), some (.ref z1), some (.ref l1), some (.int (1 - top % 2)), some (.ref f2), some (.ref d2), u]) ∧ Evl.Ex H H' ∧ H' n2 = some (.frz od (.dK (kd (Zk.drawn2 (gm g) W r.1).ranks))) ∧ H' p2 = some (.dK (kd (Zk.drawn2 (gm g) W r.1).steps)) ∧ H' z1 = some (.dK (kd r.2)) ∧
      H' f2 = some (.dK (kd ((((Zk.drawn2 (gm g) W r.1).ranks.map (·.1)).take i).foldl (Zk.lostOne (gm g) (1 - top % 2) r.2 (Zk.drawn2 (gm g) W r.1).steps) r2).1)) ∧ H' d2 = some (.dK (kd ((((Zk.drawn2 (gm g) W r.1).ranks.map (·.1)).take i).foldl (Zk.lostOne (gm g) (1 - top % 2) r.2 (Zk.drawn2 (gm g) W r.1).steps) r2).2)))
    (fun od => ⟨⟨none, rfl⟩, Evl.Ex.mut eH15 n2H, upd_same, by rw [upd_ne hnp2.symm]; exact hp2', by rw [upd_ne zn]; exact hz1', by rw [upd_ne nf.symm]; exact hf2d, by rw [upd_ne nd.symm]; exact hd2d⟩)
    (fun od i σ H' _ p => p.2.2.1) (fun rt' bk od i ky v σ H16 hk p => ?_) (fun od σ H16 p => ?_)
  · obtain ⟨⟨u, rfl⟩, e16, hn16, hp16, hz16, hf16, hd16⟩ := p
    obtain ⟨m, hm, rfl, hmr⟩ : ∃ m, ((Zk.drawn2 (gm g) W r.1).ranks.map (·.1))[i]? = some m ∧ ky = Sum.inl m ∧ Zk.aget (Zk.drawn2 (gm g) W r.1).ranks m ≠ none := by
      rw [List.getElem?_map] at hk
      cases he : (Zk.drawn2 (gm g) W r.1).ranks[i]? with
      | none => rw [he] at hk; cases hk
      | some p =>
        rw [he] at hk
        injection hk with hk
        injection hk with h1 h2
        exact ⟨p.1, by rw [List.getElem?_map, he]; rfl, h1.symm, Zk.aget_key.mp (List.mem_map.mpr ⟨p, List.mem_of_getElem? he, rfl⟩)⟩
    obtain ⟨rk, hrk⟩ : ∃ rk, Zk.aget (Zk.drawn2 (gm g) W r.1).ranks m = some rk := by
      cases hh : Zk.aget (Zk.drawn2 (gm g) W r.1).ranks m with
      | none => exact absurd hh hmr
      | some y => exact ⟨y, rfl⟩
    have hmW : m ∈ W := (a2.sub m rk hrk).1
    have hmg := hin m hmW
    have sf := foldl_take (Zk.lostOne (gm g) (1 - top % 2) r.2 (Zk.drawn2 (gm g) W r.1).steps) r2 hm
    have hln := lost_len (gm g) (1 - top % 2) r.2 (Zk.drawn2 (gm g) W r.1).steps (((Zk.drawn2 (gm g) W r.1).ranks.map (·.1)).take i) r2
    have htk : (((Zk.drawn2 (gm g) W r.1).ranks.map (·.1)).take i).length ≤ 80 := by
      rw [List.length_take, List.length_map]
      omega
    generalize (((Zk.drawn2 (gm g) W r.1).ranks.map (·.1)).take i).foldl (Zk.lostOne (gm g) (1 - top % 2) r.2 (Zk.drawn2 (gm g) W r.1).steps) r2 = U at sf hln hf16 hd16
    rw [sf]
    have hn1 : U.1.length < 100000 := by omega
    have hn2b : U.2.length < 100000 := by omega
    show tSeq _ _ _ [some (.ref a), some (.ref b), some (.int top), some (.int (top % 2)), some (.ref ta), some (.ref n2), some (.ref p2), some (.ref w1), some (.ref z1), some (.ref l1), some (.int (1 - top % 2)), some (.ref f2), some (.ref d2), some (.int m)] H16
    refine q_dputI (v := 1 - top % 2) (k := m) (ev_var rfl) (ev_var rfl) (ev_var rfl) hf16 hn1 fun H17 e17 => ?_
    have e18 : Evl.Ex H (upd H17 f2 (.dK (kd (Zk.aput U.1 m (1 - top % 2))))) := Evl.Ex.mut (e16.trans e17) f2H
    have hn18 : (upd H17 f2 (.dK (kd (Zk.aput U.1 m (1 - top % 2))))) n2 = some (.frz od (.dK (kd (Zk.drawn2 (gm g) W r.1).ranks))) := by rw [upd_ne nf]; exact e17 _ _ hn16
    have hp18 : (upd H17 f2 (.dK (kd (Zk.aput U.1 m (1 - top % 2))))) p2 = some (.dK (kd (Zk.drawn2 (gm g) W r.1).steps)) := by rw [upd_ne pf]; exact e17 _ _ hp16
    have hz18 : (upd H17 f2 (.dK (kd (Zk.aput U.1 m (1 - top % 2))))) z1 = some (.dK (kd r.2)) := by rw [upd_ne zf]; exact e17 _ _ hz16
    have hd18 : (upd H17 f2 (.dK (kd (Zk.aput U.1 m (1 - top % 2))))) d2 = some (.dK (kd U.2)) := by rw [upd_ne hfd2.symm]; exact e17 _ _ hd16
    have hf18 : (upd H17 f2 (.dK (kd (Zk.aput U.1 m (1 - top % 2))))) f2 = some (.dK (kd (Zk.aput U.1 m (1 - top % 2)))) := upd_same
    generalize (upd H17 f2 (.dK (kd (Zk.aput U.1 m (1 - top % 2))))) = H18 at e18 hn18 hp18 hz18 hd18 hf18 ⊢
    have fin : ∀ (y : Int) (H' : Hp), Evl.Ex H18 H' → Zk.lostOne (gm g) (1 - top % 2) r.2 (Zk.drawn2 (gm g) W r.1).steps U m = (Zk.aput U.1 m (1 - top % 2), Zk.aput U.2 m y) →
        ((∃ u, ([some (.ref a), some (.ref b), some (.int top), some (.int (top % 2)), some (.ref ta), some (.ref n2), some (.ref p2), some (.ref w1), some (.ref z1), some (.ref l1), some (.int (1 - top % 2)), some (.ref f2), some (.ref d2), some (.int m)] : L2.St) = [some (.ref a), some (.ref b), some (.int top), some (.int (top % 2)), some (.ref ta), some (.ref n2), some (.ref p2), some (.ref w1), some (.ref z1), some (.ref l1), some (.int (1 - top % 2)), some (.ref f2), some (.ref d2), u]) ∧ Evl.Ex H (upd H' d2 (.dK (kd (Zk.aput U.2 m y)))) ∧ (upd H' d2 (.dK (kd (Zk.aput U.2 m y)))) n2 = some (.frz od (.dK (kd (Zk.drawn2 (gm g) W r.1).ranks))) ∧ (upd H' d2 (.dK (kd (Zk.aput U.2 m y)))) p2 = some (.dK (kd (Zk.drawn2 (gm g) W r.1).steps)) ∧ (upd H' d2 (.dK (kd (Zk.aput U.2 m y)))) z1 = some (.dK (kd r.2)) ∧
          (upd H' d2 (.dK (kd (Zk.aput U.2 m y)))) f2 = some (.dK (kd (Zk.lostOne (gm g) (1 - top % 2) r.2 (Zk.drawn2 (gm g) W r.1).steps U m).1)) ∧ (upd H' d2 (.dK (kd (Zk.aput U.2 m y)))) d2 = some (.dK (kd (Zk.lostOne (gm g) (1 - top % 2) r.2 (Zk.drawn2 (gm g) W r.1).steps U m).2))) := fun y H' e hy => by
      rw [hy]
      refine ⟨⟨_, rfl⟩, Evl.Ex.mut (e18.trans e) d2H, ?_, ?_, ?_, ?_, upd_same⟩
      · rw [upd_ne nd]; exact e _ _ hn18
      · rw [upd_ne pd]; exact e _ _ hp18
      · rw [upd_ne zd]; exact e _ _ hz18
      · rw [upd_ne hfd2]; exact e _ _ hf18
    refine s_if (σ := [some (.ref a), some (.ref b), some (.int top), some (.int (top % 2)), some (.ref ta), some (.ref n2), some (.ref p2), some (.ref w1), some (.ref z1), some (.ref l1), some (.int (1 - top % 2)), some (.ref f2), some (.ref d2), some (.int m)]) (b := (Zk.aget (Zk.drawn2 (gm g) W r.1).steps m).isSome) (et_B (ev_dinI (ev_var rfl) (ev_var rfl) hp18)) (fun z3 H19 e19 => ?_) (fun z3 H19 e19 => ?_)
    · obtain ⟨y, hy⟩ := Option.isSome_iff_exists.mp z3
      refine s_dputI (v := y) (k := m) (ev_dgetI (ev_var rfl) (ev_var rfl) (e19 _ _ hp18) hy) (ev_var rfl) (ev_var rfl) (e19 _ _ hd18) hn2b fun H20 e20 => ?_
      refine fin y H20 (e19.trans e20) ?_
      unfold Zk.lostOne
      rw [hy]
    · have zp : Zk.aget (Zk.drawn2 (gm g) W r.1).steps m = none := by
        cases hh : Zk.aget (Zk.drawn2 (gm g) W r.1).steps m with
        | none => rfl
        | some y => rw [hh] at z3; cases z3
      refine s_when (σ := [some (.ref a), some (.ref b), some (.int top), some (.int (top % 2)), some (.ref ta), some (.ref n2), some (.ref p2), some (.ref w1), some (.ref z1), some (.ref l1), some (.int (1 - top % 2)), some (.ref f2), some (.ref d2), some (.int m)]) (b := decide ((gm g).own m = 1 - top % 2)) (et_test (Ev.to (ev_op (ev_own (G.mono (e18.trans e19)) (ev_var rfl) (ev_var rfl) hmg) (ev_var rfl) (rv_eq rfl)) (by simp))) (fun z4 H20 e20 => ?_) (fun z4 H20 e20 => ?_)
      · have ho : (gm g).own m = 1 - top % 2 := of_decide_eq_true z4
        -- it is one of the lost ones: the first steps have it
        have r0 : rk = 0 := by
          have h0 := (a2.sub m rk hrk).2
          by_cases hz : rk = 0
          · exact hz
          · obtain ⟨y, hy, _⟩ := a2.mine m rk hrk (by omega) ho
            rw [zp] at hy
            cases hy
        have hlost : m ∈ Zk.lostOf (gm g) W r.1 := (a2.zero m).mp (by rw [hrk, r0])
        obtain ⟨l1', l2', l3'⟩ := Zk.mem_lost.mp hlost
        rw [htop] at l3'
        have hs1 : Zk.aget r.2 m ≠ none := (P1.led m).mpr (by
          cases hv : Zk.aget r.1 m with
          | none => exact absurd hv ((P1.dom m).mpr (Zk.mem_sub1.mpr ⟨l1', l2'⟩))
          | some v =>
            have := P1.two m v hv
            have h9 : v ≠ top % 2 := fun z => l3' (by rw [hv, z])
            have h10 : v = 1 - top % 2 := by omega
            rw [h10, ho])
        obtain ⟨y, hy⟩ : ∃ y, Zk.aget r.2 m = some y := by
          cases hh : Zk.aget r.2 m with
          | none => exact absurd hh hs1
          | some y => exact ⟨y, rfl⟩
        refine s_dputI (v := y) (k := m) (ev_dgetI (ev_var rfl) (ev_var rfl) ((e19.trans e20) _ _ hz18) hy) (ev_var rfl) (ev_var rfl) ((e19.trans e20) _ _ hd18) hn2b fun H21 e21 => ?_
        refine fin y H21 ((e19.trans e20).trans e21) ?_
        unfold Zk.lostOne
        rw [zp, hy]
        dsimp only
        rw [if_pos ho]
        rfl
      · have ho : ¬ (gm g).own m = 1 - top % 2 := of_decide_eq_false z4
        have hq : Zk.lostOne (gm g) (1 - top % 2) r.2 (Zk.drawn2 (gm g) W r.1).steps U m = (Zk.aput U.1 m (1 - top % 2), U.2) := by
          unfold Zk.lostOne
          rw [zp]
          dsimp only
          rw [if_neg ho]
        rw [hq]
        have e := e19.trans e20
        exact ⟨⟨_, rfl⟩, e18.trans e, e _ _ hn18, e _ _ hp18, e _ _ hz18, e _ _ hf18, e _ _ hd18⟩
  · obtain ⟨⟨u, rfl⟩, e16, hn16, hp16, hz16, hf16, hd16⟩ := p
    rw [klen, List.take_length] at hf16 hd16
    refine s_retU (eu_tup (ea_cons (ev_var rfl) (ea_cons (ev_var rfl) ea_nil)) (by show 2 ≤ 100000; decide)) fun tp H17 _ e17 htp => ?_
    exact qq tp f2 d2 H17 ((Evl.Ex.mut e16 n2H).trans e17) f2H d2H hfd2 htp (e17 _ _ (by rw [upd_ne nf.symm]; exact hf16)) (e17 _ _ (by rw [upd_ne nd.symm]; exact hd16))
end
end Gp
namespace Gp
open PySem L2 Evl
section
variable {K : PySem.W.Frag}
/-- all places -/
def allP (g : List Row) : List Int := (List.range g.length).map fun i : Nat => (i : Int)
theorem mem_allP {g : List Row} {p : Int} : p ∈ allP g ↔ Ing g p := by
  unfold allP Ing
  rw [List.mem_map]
  constructor
  · rintro ⟨i, hi, rfl⟩
    have := List.mem_range.mp hi
    omega
  · intro ⟨h1, h2⟩
    exact ⟨p.toNat, List.mem_range.mpr (by omega), by omega⟩
theorem allP_len (g : List Row) : (allP g).length = g.length := by simp [allP]
theorem allP_nd (g : List Row) : (allP g).Nodup := by
  unfold allP
  rw [List.Nodup, List.pairwise_map]
  exact List.Pairwise.imp (fun h => by omega) (List.pairwise_lt_range (n := g.length))
theorem allP_tot {g : List Row} (ok : OkG g) : Zk.Tot (gm g) (· ∈ allP g) := fun p hp => by
  have h := ing_nat (mem_allP.mp hp)
  obtain ⟨w, hw⟩ := List.exists_mem_of_ne_nil _ (ok.ne _ h.1)
  exact ⟨w, hw, mem_allP.mpr (ok.way _ h.1 w hw)⟩
theorem allP_own {g : List Row} (ok : OkG g) : ∀ p, p ∈ allP g → (gm g).own p = 0 ∨ (gm g).own p = 1 := fun p hp => ok.own _ (ing_nat (mem_allP.mp hp)).1
def solF (g : List Row) : Zk.AL × Zk.AL := Zk.partedF (gm g) 40 (allP g)
theorem sol_ok {g : List Row} (ok : OkG g) : Zk.POk (gm g) (allP g) (solF g) := Zk.parted_ok 40 (allP g) (allP_nd g) (by rw [allP_len]; exact ok.len) (allP_tot ok) (allP_own ok)
def optV : Option Int → V
  | some i => .int i
  | none => .non
/-- what won tells, what winning_steps tells -/
def wonL (g : List Row) : List Int := (allP g).map fun p => (Zk.aget (solF g).1 p).getD 0
def stepsL (g : List Row) : List (Option Int) := (allP g).map fun p => Zk.aget (solF g).2 p
/-- a game's rows, as the refusals see them -/
theorem GA.rowP {H : Hp} {a : Addr} {g : List Row} {rt rw : Nat → Addr} (G : GA K H a g rt rw) (ok : OkG g) : ∀ x ∈ (List.range g.length).map fun i => V.ref (rt i), RowP K H x (g.length : Nat) true := by
  intro x hx
  obtain ⟨i, hi, rfl⟩ := List.mem_map.mp hx
  have hi := List.mem_range.mp hi
  refine ⟨"tuple", knd_tup (G.row i hi), .inr ⟨_, _, rfl, G.row i hi, .inr ⟨_, _, _, true, rfl, ⟨_, knd_int⟩, ⟨_, knd_int⟩, ⟨"list", knd_list (G.way i hi), .inr ⟨_, _, rfl, G.way i hi, by rw [List.length_map]; have := ok.few i hi; omega, fun y hy => ?_, ?_⟩⟩, ?_⟩⟩⟩
  · obtain ⟨n, _, rfl⟩ := List.mem_map.mp hy
    exact ⟨_, knd_int⟩
  · have h1 : (iv (rowN g i).2.2).all (fun x => isPl x (g.length : Nat)) = true := by
      rw [List.all_eq_true]
      intro y hy
      obtain ⟨n, hn, rfl⟩ := List.mem_map.mp hy
      have := ok.way i hi n hn
      simp [isPl, this.1, this.2]
    have h2 : (iv (rowN g i).2.2).map toI = (rowN g i).2.2 := by
      unfold iv
      rw [List.map_map]
      exact List.map_id _
    unfold areP
    dsimp only
    rw [h1, h2, decide_eq_true (ok.nd i hi)]
    have := ok.ne i hi
    cases h : (rowN g i).2.2 with
    | nil => exact absurd h this
    | cons b r => rfl
  · have h1 := ok.own i hi
    have h2 := ok.num i hi
    rcases h1 with h1 | h1 <;> simp [isPl, isNat, h1, h2]
def sp_won (K : PySem.W.Frag) : Sp := fun vs H Q _ => ∃ a g rt rw, vs = [.ref a] ∧ GA K H a g rt rw ∧ OkG g ∧ RetL (iv (wonL g)) H Q
def sp_winning_steps (K : PySem.W.Frag) : Sp := fun vs H Q _ => ∃ a g rt rw, vs = [.ref a] ∧ GA K H a g rt rw ∧ OkG g ∧ RetL ((stepsL g).map optV) H Q
theorem len_rng (g : List Row) (rt : Nat → Addr) : ((List.range g.length).map fun i => V.ref (rt i)).length = g.length := by simp
/-- parted(game, list(range(len(game))))[i] -/
theorem ev_parted {a : Addr} {g : List Row} {rt rw : Nat → Addr} {σ : L2.St} {H : Hp} {tg ti : TE} (G : GA K H a g rt rw) (ok : OkG g) (hg : Ev tg σ H (.ref a)) {i : Int} (hi : Ev ti σ H (.int i)) {d : Zk.AL} (hd : (i = 0 ∧ d = (solF g).1) ∨ (i = 1 ∧ d = (solF g).2)) :
    ∀ H1, Evl.Ex H H1 → ∀ Q : VK, (∀ p H2, H1 p = none → Evl.Ex H1 H2 → H2 p = some (.dK (kd d)) → Q (.ref p) H2) → tOp (rIxT K) (tCall (sp_parted K 40) [] E0 (tCons tg (tCons (tLstRg (tRg1 (tCB (rLenS K) (tCons tg tNil)))) tNil))) ti σ H1 Q := by
  intro H1 e1 Q q
  have hl : Ev (tCB (rLenS K) (tCons tg tNil)) σ H (.int (g.length : Nat)) := Ev.to (ev_len hg G.lst) (by rw [len_rng])
  have src := el_listRg hl (by omega) (by have := ok.len; omega)
  refine hg H1 e1 _ fun H2 e2 => src H2 (e1.trans e2) _ fun c H3 hc e3 hcd => ?_
  have eH3 : Evl.Ex H H3 := (e1.trans e2).trans e3
  have hcd' : H3 c = some (.lst (iv (allP g))) := hcd
  refine ⟨a, c, g, rt, rw, allP g, rfl, G.mono eH3, ok, sq_of hcd', by rw [allP_len]; exact ok.len, by rw [allP_len]; exact ok.len, allP_nd g, fun p hp => mem_allP.mp hp, allP_tot ok, ?_⟩
  intro t r s H4 e4 hr hs hrs ht hrd hsd
  have e14 : Evl.Ex H1 H4 := (e2.trans e3).trans e4
  refine hi H4 (eH3.trans e4) _ fun H5 e5 => ?_
  have back : ∀ x, H3 x = none → H1 x = none := fun x hx => fresh_back (e2.trans e3) hx
  rcases hd with ⟨rfl, rfl⟩ | ⟨rfl, rfl⟩
  · exact ⟨t, [.ref r, .ref s], 0, .ref r, rfl, rfl, st_of (e5 _ _ ht), rfl, q r H5 (back r hr) (e14.trans e5) (e5 _ _ hrd)⟩
  · exact ⟨t, [.ref r, .ref s], 1, .ref s, rfl, rfl, st_of (e5 _ _ ht), rfl, q s H5 (back s hs) (e14.trans e5) (e5 _ _ hsd)⟩
theorem given_all (n : Nat) (v : Nat → V) : given n (fun _ => true) v = (List.range n).map v := by
  unfold given
  rw [List.filter_eq_self.mpr fun _ _ => rfl]
theorem pure_won (vs : List V) (H : Hp) (Q : VK) (E : XK) (h : sp_won K vs H Q E) : t_won K (sp_need_game K) (sp_parted K 40) { nx := fun _ H' => Q .non H', rt := Q } (start N_won vs) H := by
  obtain ⟨a, g, rt, rw, rfl, G, ok, q⟩ := h
  refine q_drop1 (σ := [some (.ref a), none, none]) (ea_cons (ev_var rfl) ea_nil) fun H1 e1 => ⟨a, _, rfl, ex_l e1 G.lst, by rw [len_rng]; exact ok.len, by rw [len_rng]; exact (G.mono e1).rowP ok, fun H2 e2 => ?_⟩
  have eH2 := e1.trans e2
  refine ev_parted (σ := [some (.ref a), none, none]) (tg := tVar 0) (ti := tC (.int 0)) (G.mono eH2) ok (ev_var rfl) ev_c (.inl ⟨rfl, rfl⟩) H2 (Evl.Ex.refl _) _ fun p H3 hp e3 hd => ?_
  have eH3 := eH2.trans e3
  have hl : Ev (tCB (rLenS K) (tCons (tVar 0) tNil)) [some (.ref a), some (.ref p), none] H3 (.int (g.length : Nat)) := Ev.to (ev_len (ev_var rfl) (G.mono eH3).lst) (by rw [len_rng])
  refine s_retL (σ := [some (.ref a), some (.ref p), none]) (EvL.to (el_lcR1 (t := tYes) (fun _ => true) (fun i => .int ((Zk.aget (solF g).1 (i : Int)).getD 0)) (ea_cons hl ea_nil) (by have := ok.len; omega) (fun _ => rfl) (fun _ _ _ _ => et_yes) fun i H4 e4 hi _ => ?_) ?_) fun p2 H4 hp2 e4 h4 => q.go eH3 hp2 e4 h4
  · have hs : Zk.aget (solF g).1 (i : Int) ≠ none := ((sol_ok ok).dom _).mpr (mem_allP.mpr ⟨by omega, hi⟩)
    cases hv : Zk.aget (solF g).1 (i : Int) with
    | none => exact absurd hv hs
    | some v => exact ev_dgetI (ev_var rfl) (ev_var rfl) (e4 _ _ hd) hv
  · rw [given_all]
    unfold wonL allP iv
    rw [List.map_map, List.map_map]
    rfl
theorem pure_winning_steps (vs : List V) (H : Hp) (Q : VK) (E : XK) (h : sp_winning_steps K vs H Q E) : t_winning_steps K (sp_need_game K) (sp_parted K 40) { nx := fun _ H' => Q .non H', rt := Q } (start N_winning_steps vs) H := by
  obtain ⟨a, g, rt, rw, rfl, G, ok, q⟩ := h
  refine q_drop1 (σ := [some (.ref a), none, none]) (ea_cons (ev_var rfl) ea_nil) fun H1 e1 => ⟨a, _, rfl, ex_l e1 G.lst, by rw [len_rng]; exact ok.len, by rw [len_rng]; exact (G.mono e1).rowP ok, fun H2 e2 => ?_⟩
  have eH2 := e1.trans e2
  refine ev_parted (σ := [some (.ref a), none, none]) (tg := tVar 0) (ti := tC (.int 1)) (G.mono eH2) ok (ev_var rfl) ev_c (.inr ⟨rfl, rfl⟩) H2 (Evl.Ex.refl _) _ fun p H3 hp e3 hd => ?_
  have eH3 := eH2.trans e3
  have hl : Ev (tCB (rLenS K) (tCons (tVar 0) tNil)) [some (.ref a), some (.ref p), none] H3 (.int (g.length : Nat)) := Ev.to (ev_len (ev_var rfl) (G.mono eH3).lst) (by rw [len_rng])
  refine s_retL (σ := [some (.ref a), some (.ref p), none]) (EvL.to (el_lcR1 (t := tYes) (fun _ => true) (fun i => optV (Zk.aget (solF g).2 (i : Int))) (ea_cons hl ea_nil) (by have := ok.len; omega) (fun _ => rfl) (fun _ _ _ _ => et_yes) fun i H4 e4 hi _ => ?_) ?_) fun p2 H4 hp2 e4 h4 => q.go eH3 hp2 e4 h4
  · refine Ev.to (ev_dget1 (k := Sum.inl (i : Int)) (ev_var rfl) (ev_var rfl) (e4 _ _ hd)) ?_
    rw [valV_kd']
    cases Zk.aget (solF g).2 (i : Int) <;> rfl
  · rw [given_all]
    unfold stepsL allP
    rw [List.map_map, List.map_map]
    rfl
end
end Gp
namespace Gp
open PySem L2 Evl
/-! my own short words (tactics of mine under names that the library has) -/
local macro_rules | `(tactic| one_sign) => `(tactic| first | exact Evl.Ex.refl _ | assumption | exact Evl.Ex.new (by assumption) | (refine Evl.Ex.trans ?_ (by assumption); one_sign) | (refine Evl.Ex.trans ?_ (Evl.Ex.new (by assumption)); one_sign))
local macro_rules | `(tactic| one_place) => `(tactic| first | assumption | exact upd_same | (refine Evl.ex_l ?_ (by assumption); one_sign) | (refine Evl.ex_t ?_ (by assumption); one_sign) | (refine Evl.sq_of ?_; one_place) | (refine Evl.st_of ?_; one_place) | (refine (show Evl.Ex _ _ from ?_) _ _ (by assumption); one_sign))
local macro_rules | `(tactic| one_item) => `(tactic| first | ((with_reducible apply ev_var); rfl) | (with_reducible exact ev_c) | assumption | (refine Ev.mono ?_ (by assumption); one_sign) | ((with_reducible apply ev_op) <;> one_item) | (with_reducible exact rv_I0) | ((with_reducible refine rv_mod ?_); omega) | ((with_reducible refine rv_div ?_ ?_) <;> omega) | ((with_reducible refine rv_mulL ?_); omega) | ((with_reducible refine rv_mulR ?_); omega) | ((with_reducible refine rv_pow ?_); decide) | ((with_reducible refine rv_eq ?_); rfl) | ((with_reducible refine rv_ne ?_); rfl) | (with_reducible exact rv_isN) | (with_reducible exact rv_notN) | ((with_reducible apply rv_inI); one_place) | ((with_reducible apply rv_niI); one_place) | ((with_reducible apply rv_ixT) <;> (first | rfl | one_place)) | ((with_reducible apply ev_len) <;> (first | one_item | one_place)) | ((with_reducible apply ev_lenT) <;> (first | one_item | one_place)) | (with_reducible exact ea_nil) | ((with_reducible apply ea_cons) <;> one_item) | ((with_reducible apply et_test); one_item) | ((with_reducible apply et_B); one_item) | (with_reducible exact et_yes) | ((with_reducible apply et_not); one_item) | ((with_reducible apply ev_chain) <;> one_item) | ((with_reducible apply ev_notV); one_item))
/-! ### the law's own: numbers that are drawn, rows that are made -/
def mixed (n k : Int) : Int := ((n % 2147483647 + 7919 * k * k + 31 * k) * 48271 % 2147483647) * (69621 + 2 * k) % 2147483629
theorem mixed_nn (n k : Int) : 0 ≤ mixed n k := Int.emod_nonneg _ (by decide)
theorem mixed_lt (n k : Int) : mixed n k < 2147483629 := Int.emod_lt_of_pos _ (by decide)
def sp_law_mixed : Sp := fun vs H Q _ => ∃ n k, vs = [.int n, .int k] ∧ 0 ≤ k ∧ k ≤ 1000000 ∧ RetV (.int (mixed n k)) H Q
section
variable {K : PySem.W.Frag}
theorem ev_mixed {σ : L2.St} {H : Hp} {ta tb : TE} {n k : Int} {E : XK} (ha : Ev ta σ H (.int n)) (hb : Ev tb σ H (.int k)) (h0 : 0 ≤ k) (h1 : k ≤ 1000000) : Ev (tCall sp_law_mixed [] E (tCons ta (tCons tb tNil))) σ H (.int (mixed n k)) :=
  ev_call0 (ea_cons ha (ea_cons hb ea_nil)) fun H1 _ Q q E => ⟨n, k, rfl, h0, h1, q⟩
/-- a row that the law has made: its tuple and its ways are none of N -/
def RowAt (H : Hp) (N : List Addr) (v : V) (r : Row) : Prop := ∃ t w, v = .ref t ∧ t ∉ N ∧ w ∉ N ∧ H t = some (.tup [.int r.1, .int r.2.1, .ref w]) ∧ H w = some (.lst (iv r.2.2))
structure RowsAt (H : Hp) (N : List Addr) (vs : List V) (g : List Row) : Prop where
  len : vs.length = g.length
  row : ∀ (i : Nat) (v : V) (r : Row), vs[i]? = some v → g[i]? = some r → RowAt H N v r
theorem RowAt.mono {H H' : Hp} {N : List Addr} {v : V} {r : Row} (h : RowAt H N v r) (e : Evl.Ex H H') : RowAt H' N v r := by
  obtain ⟨t, w, h1, h2, h3, h4, h5⟩ := h
  exact ⟨t, w, h1, h2, h3, e _ _ h4, e _ _ h5⟩
theorem RowAt.upd {H : Hp} {N : List Addr} {v : V} {r : Row} {a : Addr} (h : RowAt H N v r) (ha : a ∈ N) (o : HO) : RowAt (upd H a o) N v r := by
  obtain ⟨t, w, h1, h2, h3, h4, h5⟩ := h
  exact ⟨t, w, h1, h2, h3, by rw [upd_ne (fun z => h2 (by rw [z]; exact ha))]; exact h4, by rw [upd_ne (fun z => h3 (by rw [z]; exact ha))]; exact h5⟩
theorem RowAt.fresh {H : Hp} {N : List Addr} {p : Addr} {v : V} {r : Row} (h : RowAt H N v r) (hp : H p = none) : RowAt H (p :: N) v r := by
  obtain ⟨t, w, h1, h2, h3, h4, h5⟩ := h
  refine ⟨t, w, h1, ?_, ?_, h4, h5⟩
  · intro z
    rcases List.mem_cons.mp z with z | z
    · exact fresh_at hp h4 z
    · exact h2 z
  · intro z
    rcases List.mem_cons.mp z with z | z
    · exact fresh_at hp h5 z
    · exact h3 z
theorem RowAt.sub {H : Hp} {N N' : List Addr} {v : V} {r : Row} (h : RowAt H N v r) (hs : ∀ a ∈ N', a ∈ N) : RowAt H N' v r := by
  obtain ⟨t, w, h1, h2, h3, h4, h5⟩ := h
  exact ⟨t, w, h1, fun z => h2 (hs _ z), fun z => h3 (hs _ z), h4, h5⟩
theorem RowsAt.mono {H H' : Hp} {N : List Addr} {vs : List V} {g : List Row} (h : RowsAt H N vs g) (e : Evl.Ex H H') : RowsAt H' N vs g := ⟨h.len, fun i v r a b => (h.row i v r a b).mono e⟩
theorem RowsAt.upd {H : Hp} {N : List Addr} {a : Addr} {vs : List V} {g : List Row} (h : RowsAt H N vs g) (ha : a ∈ N) (o : HO) : RowsAt (upd H a o) N vs g := ⟨h.len, fun i v r c d => (h.row i v r c d).upd ha o⟩
theorem RowsAt.fresh {H : Hp} {N : List Addr} {p : Addr} {vs : List V} {g : List Row} (h : RowsAt H N vs g) (hp : H p = none) : RowsAt H (p :: N) vs g := ⟨h.len, fun i v r a b => (h.row i v r a b).fresh hp⟩
theorem RowsAt.sub {H : Hp} {N N' : List Addr} {vs : List V} {g : List Row} (h : RowsAt H N vs g) (hs : ∀ a ∈ N', a ∈ N) : RowsAt H N' vs g := ⟨h.len, fun i v r a b => (h.row i v r a b).sub hs⟩
theorem RowsAt.nil {H : Hp} {N : List Addr} : RowsAt H N [] [] := ⟨rfl, fun i v r a b => by simp at a⟩
theorem RowsAt.append {H : Hp} {N : List Addr} {vs us : List V} {g f : List Row} (h : RowsAt H N vs g) (k : RowsAt H N us f) : RowsAt H N (vs ++ us) (g ++ f) := by
  refine ⟨by rw [List.length_append, List.length_append, h.len, k.len], fun i v r a b => ?_⟩
  by_cases c : i < vs.length
  · rw [List.getElem?_append_left c] at a
    rw [List.getElem?_append_left (by rw [← h.len]; exact c)] at b
    exact h.row i v r a b
  · rw [List.getElem?_append_right (by omega)] at a
    rw [List.getElem?_append_right (by rw [← h.len]; omega), ← h.len] at b
    exact k.row _ v r a b
theorem RowsAt.one {H : Hp} {N : List Addr} {v : V} {r : Row} (h : RowAt H N v r) : RowsAt H N [v] [r] := ⟨rfl, fun i u s a b => by
  cases i with
  | zero =>
    cases a
    cases b
    exact h
  | succ i => simp at a⟩
theorem RowsAt.ga {H : Hp} {N : List Addr} {R : Addr} {vs : List V} {g : List Row} (h : RowsAt H N vs g) (hl : SqL K H R vs) : ∃ rt rw, GA K H R g rt rw := by
  have ex : ∀ i, ∃ p : Addr × Addr, i < g.length → vs[i]? = some (.ref p.1) ∧ H p.1 = some (.tup [.int (rowN g i).1, .int (rowN g i).2.1, .ref p.2]) ∧ H p.2 = some (.lst (iv (rowN g i).2.2)) := fun i => by
    by_cases c : i < g.length
    · have c2 : i < vs.length := by rw [h.len]; exact c
      obtain ⟨t, w, h1, _, _, h4, h5⟩ := h.row i vs[i] g[i] (by simp [c2]) (by simp [c])
      have er : rowN g i = g[i] := by simp [rowN, c]
      exact ⟨(t, w), fun _ => ⟨by simp [c2, h1], by rw [er]; exact h4, by rw [er]; exact h5⟩⟩
    · exact ⟨(0, 0), fun z => absurd z c⟩
  let f : Nat → Addr × Addr := fun i => Classical.choose (ex i)
  have hf : ∀ i, i < g.length → vs[i]? = some (.ref (f i).1) ∧ H (f i).1 = some (.tup [.int (rowN g i).1, .int (rowN g i).2.1, .ref (f i).2]) ∧ H (f i).2 = some (.lst (iv (rowN g i).2.2)) := fun i hi => Classical.choose_spec (ex i) hi
  have e : vs = (List.range g.length).map fun i => V.ref (f i).1 := by
    apply List.ext_getElem?
    intro i
    by_cases c : i < g.length
    · rw [(hf i c).1]
      simp [c]
    · rw [List.getElem?_eq_none (by rw [h.len]; omega), List.getElem?_eq_none (by simp; omega)]
  exact ⟨fun i => (f i).1, fun i => (f i).2, by rw [← e]; exact hl, fun i hi => st_of (hf i hi).2.1, fun i hi => sq_of (hf i hi).2.2⟩
end
end Gp
namespace Gp
open PySem L2 Evl

/-! _law_mixed: 0 _law_number 1 _law_k -/
abbrev N_law_mixed : List Str := ["_law_number", "_law_k"]
def t_law_mixed (K : PySem.W.Frag) : TS :=
  (tSeq (tAsg (tOp rMod (tOp rMul (tOp rAdd (tOp rAdd (tOp rMod (tVar 0) (tC (.int 2147483647))) (tOp rMul (tOp rMul (tC (.int 7919)) (tVar 1)) (tVar 1))) (tOp rMul (tC (.int 31)) (tVar 1))) (tC (.int 48271))) (tC (.int 2147483647))) (gName 0))
  (tRet (tOp rMod (tOp rMul (tVar 0) (tOp rAdd (tC (.int 69621)) (tOp rMul (tC (.int 2)) (tVar 1)))) (tC (.int 2147483629)))))
/-! _law_game: 0 _law_script 1 _law_most 2 _law_number 3 _law_many 4 _law_wide 5 _law_rows 6 _law_place 7 _law_more 8 _law_cell 9 _law_row 10 _law_way -/
abbrev N_law_game : List Str := ["_law_script", "_law_most", "_law_number", "_law_many", "_law_wide", "_law_rows", "_law_place", "_law_more", "_law_cell", "_law_row", "_law_way"]
def t_law_game (K : PySem.W.Frag) (sp_law_mixed : Sp) : TS :=
  (tSeq (tAsg (tCall sp_law_mixed [] E0 (tCons (tIf (tTest (tOp (rNeD K) (tVar 0) (tLst tNil))) (tOp (rIxL K) (tVar 0) (tC (.int 0))) (tC (.int 6))) (tCons (tC (.int 1)) tNil))) (gName 2))
  (tSeq (tAsg (tOp rAdd (tOp rMod (tVar 2) (tVar 1)) (tC (.int 1))) (gName 3))
  (tSeq (tAsg (tOp (rIxL K) (tLst (tCons (tC (.int 2)) (tCons (tC (.int 3)) (tCons (tC (.int 5)) (tCons (tOp rPow (tC (.int 10)) (tC (.int 9))) (tCons (tVar 3) tNil)))))) (tOp rMod (tOp rDiv (tVar 2) (tC (.int 64))) (tC (.int 5)))) (gName 4))
  (tSeq (tAsg (tLst tNil) (gName 5))
  (tSeq (tFor (iRng1 (tCons (tVar 3) tNil)) (gName 6) (tSeq (tAsg (tCall sp_law_mixed [] E0 (tCons (tVar 2) (tCons (tOp rAdd (tC (.int 10)) (tVar 6)) tNil))) (gName 7))
  (tDrop (tBM K "list" rAppend (tVar 5) (tCons (tLst (tCons (tOp rMod (tVar 7) (tC (.int 2))) (tCons (tOp rMod (tOp rDiv (tVar 7) (tC (.int 2))) (tVar 4)) (tCons (tLst (tCons (tOp rMod (tOp rDiv (tVar 7) (tC (.int 7))) (tVar 3)) tNil)) tNil)))) tNil)))))
  (tSeq (tFor (iList K (tVar 0)) (gName 8) (tSeq (tAsg (tCall sp_law_mixed [] E0 (tCons (tVar 8) (tCons (tC (.int 2)) tNil))) (gName 7))
  (tSeq (tAsg (tOp (rIxL K) (tVar 5) (tOp rMod (tVar 7) (tVar 3))) (gName 9))
  (tSeq (tAsg (tOp rMod (tOp rDiv (tVar 7) (tVar 3)) (tVar 3)) (gName 10))
  (tIfS (tTest (tOp rEq (tOp rMod (tOp rDiv (tVar 7) (tC (.int 1009))) (tC (.int 8))) (tC (.int 0)))) (tAsg (tOp rSub (tC (.int 1)) (tOp (rIxL K) (tVar 9) (tC (.int 0)))) (gSub (tVar 9) (tC (.int 0)) rSetL)) (tIfS (tTest (tOp rEq (tOp rMod (tOp rDiv (tVar 7) (tC (.int 1009))) (tC (.int 8))) (tC (.int 1)))) (tAsg (tOp rMod (tCall sp_law_mixed [] E0 (tCons (tVar 7) (tCons (tC (.int 3)) tNil))) (tVar 4)) (gSub (tVar 9) (tC (.int 1)) rSetL)) (tIfS (tTest (tOp (rIn K true) (tVar 10) (tOp (rIxL K) (tVar 9) (tC (.int 2))))) (tDrop (tBM K "list" rAppend (tOp (rIxL K) (tVar 9) (tC (.int 2))) (tCons (tVar 10) tNil))) (tIfS (tTest (tOp rGt (tCB (rLenS K) (tCons (tOp (rIxL K) (tVar 9) (tC (.int 2))) tNil)) (tC (.int 1)))) (tDrop (tBM K "list" rRemI (tOp (rIxL K) (tVar 9) (tC (.int 2))) (tCons (tVar 10) tNil))) tNext))))))))
  (tRet (tLc (iList K (tVar 5)) (gName 9) tYes (tTup (tCons (tOp (rIxL K) (tVar 9) (tC (.int 0))) (tCons (tOp (rIxL K) (tVar 9) (tC (.int 1))) (tCons (tOp (rIxL K) (tVar 9) (tC (.int 2))) tNil)))) [9]))))))))
end Gp
namespace Gp
open PySem L2 Evl
local macro_rules | `(tactic| one_sign) => `(tactic| first | exact Evl.Ex.refl _ | assumption | exact Evl.Ex.new (by assumption) | (refine Evl.Ex.trans ?_ (by assumption); one_sign) | (refine Evl.Ex.trans ?_ (Evl.Ex.new (by assumption)); one_sign))
local macro_rules | `(tactic| one_place) => `(tactic| first | assumption | exact upd_same | (refine Evl.ex_l ?_ (by assumption); one_sign) | (refine Evl.ex_t ?_ (by assumption); one_sign) | (refine Evl.sq_of ?_; one_place) | (refine Evl.st_of ?_; one_place) | (refine (show Evl.Ex _ _ from ?_) _ _ (by assumption); one_sign))
local macro_rules | `(tactic| one_item) => `(tactic| first | ((with_reducible apply ev_var); rfl) | (with_reducible exact ev_c) | assumption | (refine Ev.mono ?_ (by assumption); one_sign) | ((with_reducible apply ev_op) <;> one_item) | (with_reducible exact rv_I0) | ((with_reducible refine rv_mod ?_); omega) | ((with_reducible refine rv_div ?_ ?_) <;> omega) | ((with_reducible refine rv_mulL ?_); omega) | ((with_reducible refine rv_mulR ?_); omega) | ((with_reducible refine rv_pow ?_); decide) | ((with_reducible refine rv_eq ?_); rfl) | ((with_reducible refine rv_ne ?_); rfl) | (with_reducible exact rv_isN) | (with_reducible exact rv_notN) | ((with_reducible apply rv_inI); one_place) | ((with_reducible apply rv_niI); one_place) | ((with_reducible apply rv_ixT) <;> (first | rfl | one_place)) | ((with_reducible apply ev_len) <;> (first | one_item | one_place)) | ((with_reducible apply ev_lenT) <;> (first | one_item | one_place)) | (with_reducible exact ea_nil) | ((with_reducible apply ea_cons) <;> one_item) | ((with_reducible apply et_test); one_item) | ((with_reducible apply et_B); one_item) | (with_reducible exact et_yes) | ((with_reducible apply et_not); one_item) | ((with_reducible apply ev_chain) <;> one_item) | ((with_reducible apply ev_notV); one_item))
/-! ### games of the law's: rows that are lists, changed in place -/
def OkR (m : Int) (r : Row) : Prop := (r.1 = 0 ∨ r.1 = 1) ∧ 0 ≤ r.2.1 ∧ r.2.2 ≠ [] ∧ r.2.2.Nodup ∧ ∀ w ∈ r.2.2, 0 ≤ w ∧ w < m
structure MG (H0 H : Hp) (R : Addr) (rl rw : Nat → Addr) (m : Int) (g : List Row) : Prop where
  ex : Evl.Ex H0 H
  lst : H R = some (.lst ((List.range g.length).map fun i => V.ref (rl i)))
  row : ∀ i, i < g.length → H (rl i) = some (.lst [.int (rowN g i).1, .int (rowN g i).2.1, .ref (rw i)])
  way : ∀ i, i < g.length → H (rw i) = some (.lst (iv (rowN g i).2.2))
  r0 : H0 R = none
  l0 : ∀ i, i < g.length → H0 (rl i) = none
  w0 : ∀ i, i < g.length → H0 (rw i) = none
  il : ∀ i j, i < g.length → j < g.length → rl i = rl j → i = j
  iw : ∀ i j, i < g.length → j < g.length → rw i = rw j → i = j
  lw : ∀ i j, i < g.length → j < g.length → rl i ≠ rw j
  lR : ∀ i, i < g.length → rl i ≠ R
  wR : ∀ i, i < g.length → rw i ≠ R
  ok : ∀ i, i < g.length → OkR m (rowN g i)
def extA (f : Nat → Addr) (n : Nat) (t : Addr) : Nat → Addr := fun i => if i = n then t else f i
theorem extA_eq {f : Nat → Addr} {n : Nat} {t : Addr} : extA f n t n = t := if_pos rfl
theorem extA_lt {f : Nat → Addr} {n : Nat} {t : Addr} {i : Nat} (h : i < n) : extA f n t i = f i := if_neg (by omega)
theorem rowN_lt {g : List Row} {r : Row} {i : Nat} (h : i < g.length) : rowN (g ++ [r]) i = rowN g i := by
  unfold rowN
  simp [List.getD, List.getElem?_append_left h]
theorem rowN_last {g : List Row} {r : Row} : rowN (g ++ [r]) g.length = r := by simp [rowN]
theorem rowN_set {g : List Row} {r : Row} {i j : Nat} (h : i < g.length) : rowN (g.set i r) j = if j = i then r else rowN g j := by
  unfold rowN
  simp only [List.getD, List.getElem?_set]
  by_cases c : i = j
  · subst c
    simp [h]
  · rw [if_neg c, if_neg (fun z => c z.symm)]
section
variable {H0 H H' : Hp} {R : Addr} {rl rw : Nat → Addr} {m : Int} {g : List Row}
theorem MG.mono (M : MG H0 H R rl rw m g) (e : Evl.Ex H H') : MG H0 H' R rl rw m g :=
  { M with ex := M.ex.trans e, lst := e _ _ M.lst, row := fun i hi => e _ _ (M.row i hi), way := fun i hi => e _ _ (M.way i hi) }
theorem MG.nil (h : H0 R = none) (e : Evl.Ex H0 H) (hl : H R = some (.lst [])) : MG H0 H R rl rw m [] :=
  { ex := e, lst := hl, row := fun i hi => absurd hi (Nat.not_lt_zero _), way := fun i hi => absurd hi (Nat.not_lt_zero _), r0 := h, l0 := fun i hi => absurd hi (Nat.not_lt_zero _), w0 := fun i hi => absurd hi (Nat.not_lt_zero _), il := fun i _ hi => absurd hi (Nat.not_lt_zero _), iw := fun i _ hi => absurd hi (Nat.not_lt_zero _), lw := fun i _ hi => absurd hi (Nat.not_lt_zero _), lR := fun i hi => absurd hi (Nat.not_lt_zero _), wR := fun i hi => absurd hi (Nat.not_lt_zero _), ok := fun i hi => absurd hi (Nat.not_lt_zero _) }
theorem MG.push (M : MG H0 H R rl rw m g) (e : Evl.Ex H H') {t w : Addr} {r : Row} (ht : H t = none) (hw : H w = none) (tw : t ≠ w) (h1 : H' t = some (.lst [.int r.1, .int r.2.1, .ref w])) (h2 : H' w = some (.lst (iv r.2.2))) (ok : OkR m r) :
    MG H0 (upd H' R (.lst (((List.range g.length).map fun i => V.ref (rl i)) ++ [.ref t]))) R (extA rl g.length t) (extA rw g.length w) m (g ++ [r]) := by
  have tR : t ≠ R := (fresh_at ht M.lst).symm
  have wR : w ≠ R := (fresh_at hw M.lst).symm
  have tl : ∀ i, i < g.length → rl i ≠ t := fun i hi => fresh_at ht (M.row i hi)
  have twy : ∀ i, i < g.length → rw i ≠ t := fun i hi => fresh_at ht (M.way i hi)
  have wl : ∀ i, i < g.length → rl i ≠ w := fun i hi => fresh_at hw (M.row i hi)
  have wwy : ∀ i, i < g.length → rw i ≠ w := fun i hi => fresh_at hw (M.way i hi)
  have cs : ∀ i, i < (g ++ [r]).length → i < g.length ∨ i = g.length := fun i hi => by
    rw [List.length_append] at hi
    have : [r].length = 1 := rfl
    omega
  have k0 : ∀ i, i < (g ++ [r]).length → extA rl g.length t i ≠ R ∧ extA rw g.length w i ≠ R := fun i hi => by
    rcases cs i hi with h | rfl
    · rw [extA_lt h, extA_lt h]; exact ⟨M.lR i h, M.wR i h⟩
    · rw [extA_eq, extA_eq]; exact ⟨tR, wR⟩
  refine { ex := Evl.Ex.mut (M.ex.trans e) M.r0, lst := ?_, row := fun i hi => ?_, way := fun i hi => ?_, r0 := M.r0, l0 := fun i hi => ?_, w0 := fun i hi => ?_, il := fun i j hi hj z => ?_, iw := fun i j hi hj z => ?_, lw := fun i j hi hj z => ?_, lR := fun i hi => (k0 i hi).1, wR := fun i hi => (k0 i hi).2, ok := fun i hi => ?_ }
  · rw [upd_same, List.length_append, show [r].length = 1 from rfl, List.range_succ, List.map_append]
    have z1 : (List.range g.length).map (fun i => V.ref (extA rl g.length t i)) = (List.range g.length).map fun i => V.ref (rl i) := List.map_congr_left fun i hi => by rw [extA_lt (List.mem_range.mp hi)]
    have z2 : [g.length].map (fun i => V.ref (extA rl g.length t i)) = [V.ref t] := by
      show [V.ref (extA rl g.length t g.length)] = _
      rw [extA_eq]
    rw [z1, z2]
  · rw [upd_ne (k0 i hi).1]
    rcases cs i hi with h | rfl
    · rw [extA_lt h, extA_lt h, rowN_lt h]; exact e _ _ (M.row i h)
    · rw [extA_eq, extA_eq, rowN_last]; exact h1
  · rw [upd_ne (k0 i hi).2]
    rcases cs i hi with h | rfl
    · rw [extA_lt h, rowN_lt h]; exact e _ _ (M.way i h)
    · rw [extA_eq, rowN_last]; exact h2
  · rcases cs i hi with h | rfl
    · rw [extA_lt h]; exact M.l0 i h
    · rw [extA_eq]; exact fresh_back M.ex ht
  · rcases cs i hi with h | rfl
    · rw [extA_lt h]; exact M.w0 i h
    · rw [extA_eq]; exact fresh_back M.ex hw
  · rcases cs i hi with h | h <;> rcases cs j hj with k | k
    · rw [extA_lt h, extA_lt k] at z; exact M.il i j h k z
    · subst k; rw [extA_lt h, extA_eq] at z; exact absurd z (tl i h)
    · subst h; rw [extA_lt k, extA_eq] at z; exact absurd z.symm (tl j k)
    · omega
  · rcases cs i hi with h | h <;> rcases cs j hj with k | k
    · rw [extA_lt h, extA_lt k] at z; exact M.iw i j h k z
    · subst k; rw [extA_lt h, extA_eq] at z; exact absurd z (wwy i h)
    · subst h; rw [extA_lt k, extA_eq] at z; exact absurd z.symm (wwy j k)
    · omega
  · rcases cs i hi with h | h <;> rcases cs j hj with k | k
    · rw [extA_lt h, extA_lt k] at z; exact M.lw i j h k z
    · subst k; rw [extA_lt h, extA_eq] at z; exact absurd z (wl i h)
    · subst h; rw [extA_lt k, extA_eq] at z; exact absurd z.symm (twy j k)
    · subst h; rw [k, extA_eq, extA_eq] at z; exact tw z
  · rcases cs i hi with h | rfl
    · rw [rowN_lt h]; exact M.ok i h
    · rw [rowN_last]; exact ok
theorem MG.setRow (M : MG H0 H R rl rw m g) {i : Nat} (hi : i < g.length) {a n : Int} (ok : OkR m (a, n, (rowN g i).2.2)) :
    MG H0 (upd H (rl i) (.lst [.int a, .int n, .ref (rw i)])) R rl rw m (g.set i (a, n, (rowN g i).2.2)) := by
  have ln : (g.set i (a, n, (rowN g i).2.2)).length = g.length := List.length_set
  refine { ex := Evl.Ex.mut M.ex (M.l0 i hi), lst := ?_, row := fun j hj => ?_, way := fun j hj => ?_, r0 := M.r0, l0 := ?_, w0 := ?_, il := ?_, iw := ?_, lw := ?_, lR := ?_, wR := ?_, ok := fun j hj => ?_ }
  · rw [upd_ne (M.lR i hi).symm, ln]; exact M.lst
  · rw [ln] at hj
    rw [rowN_set hi]
    by_cases c : j = i
    · subst c; rw [upd_same, if_pos rfl]
    · rw [if_neg c, upd_ne (fun z => c (M.il j i hj hi z))]; exact M.row j hj
  · rw [ln] at hj
    rw [upd_ne (M.lw i j hi hj).symm, rowN_set hi, M.way j hj]
    by_cases c : j = i
    · subst c; rw [if_pos rfl]
    · rw [if_neg c]
  · rw [ln]; exact M.l0
  · rw [ln]; exact M.w0
  · rw [ln]; exact M.il
  · rw [ln]; exact M.iw
  · rw [ln]; exact M.lw
  · rw [ln]; exact M.lR
  · rw [ln]; exact M.wR
  · rw [ln] at hj
    rw [rowN_set hi]
    by_cases c : j = i
    · rw [if_pos c]; exact ok
    · rw [if_neg c]; exact M.ok j hj
theorem MG.setWay (M : MG H0 H R rl rw m g) {i : Nat} (hi : i < g.length) {ws : List Int} (ok : OkR m ((rowN g i).1, (rowN g i).2.1, ws)) :
    MG H0 (upd H (rw i) (.lst (iv ws))) R rl rw m (g.set i ((rowN g i).1, (rowN g i).2.1, ws)) := by
  have ln : (g.set i ((rowN g i).1, (rowN g i).2.1, ws)).length = g.length := List.length_set
  refine { ex := Evl.Ex.mut M.ex (M.w0 i hi), lst := ?_, row := fun j hj => ?_, way := fun j hj => ?_, r0 := M.r0, l0 := ?_, w0 := ?_, il := ?_, iw := ?_, lw := ?_, lR := ?_, wR := ?_, ok := fun j hj => ?_ }
  · rw [upd_ne (M.wR i hi).symm, ln]; exact M.lst
  · rw [ln] at hj
    rw [upd_ne (M.lw j i hj hi), rowN_set hi, M.row j hj]
    by_cases c : j = i
    · subst c; rw [if_pos rfl]
    · rw [if_neg c]
  · rw [ln] at hj
    rw [rowN_set hi]
    by_cases c : j = i
    · subst c; rw [upd_same, if_pos rfl]
    · rw [if_neg c, upd_ne (fun z => c (M.iw j i hj hi z))]; exact M.way j hj
  · rw [ln]; exact M.l0
  · rw [ln]; exact M.w0
  · rw [ln]; exact M.il
  · rw [ln]; exact M.iw
  · rw [ln]; exact M.lw
  · rw [ln]; exact M.lR
  · rw [ln]; exact M.wR
  · rw [ln] at hj
    rw [rowN_set hi]
    by_cases c : j = i
    · rw [if_pos c]; exact ok
    · rw [if_neg c]; exact M.ok j hj
theorem OkR.few {r : Row} (h : OkR m r) : r.2.2.length ≤ m.toNat := by
  obtain ⟨_, _, _, nd, hw⟩ := h
  have := Zk.nodup_len r.2.2 ((List.range m.toNat).map fun i : Nat => (i : Int)) nd fun w hw' => by
    have := hw w hw'
    exact List.mem_map.mpr ⟨w.toNat, List.mem_range.mpr (by omega), by omega⟩
  simpa using this
theorem MG.okG (M : MG H0 H R rl rw m g) (hm : m = (g.length : Nat)) (h40 : g.length ≤ 40) : OkG g :=
  ⟨h40, fun i hi => (M.ok i hi).1, fun i hi => (M.ok i hi).2.1, fun i hi => (M.ok i hi).2.2.1, fun i hi => (M.ok i hi).2.2.2.1, fun i hi w hw => by
    have := (M.ok i hi).2.2.2.2 w hw
    exact ⟨this.1, by omega⟩, fun i hi => by
    have := (M.ok i hi).few
    omega⟩
end
section
variable {K : PySem.W.Frag} {σ : L2.St} {H : Hp}
/-- over a list, new tuples: their places are new -/
def NewT (F : V → List V) (xs : List V) (H1 : Hp) (D : Addr) (i : Nat) (H' : Hp) : Prop := H1 D = none ∧ Evl.Ex H1 H' ∧ ∃ ts : List Addr, ts.length = i ∧ H' D = some (.lst (ts.map V.ref)) ∧ ∀ (j : Nat) (t : Addr) (x : V), ts[j]? = some t → xs[j]? = some x → H' t = some (.tup (F x)) ∧ H1 t = none ∧ t ≠ D
theorem lc_newT {a : Addr} {xs : List V} {tl te : TE} {j : Nat} {vs : List Nat} (F : V → List V) (h : Ev tl σ H (.ref a)) (hx : SqL K H a xs) (hz : xs.length ≤ 40000) (hw : ∀ x, wipe ((wipe σ vs).set j (some x)) vs = wipe σ vs)
    (he : ∀ (i : Nat) (x : V) H1, Evl.Ex H H1 → xs[i]? = some x → EvU te ((wipe σ vs).set j (some x)) H1 (F x)) :
    ∀ H1, Evl.Ex H H1 → ∀ Q : VK, (∀ (p : Addr) (ts : List Addr) H2, H1 p = none → Evl.Ex H1 H2 → H2 p = some (.lst (ts.map V.ref)) → ts.length = xs.length → (∀ (i : Nat) (t : Addr) (x : V), ts[i]? = some t → xs[i]? = some x → H2 t = some (.tup (F x)) ∧ H1 t = none ∧ t ≠ p) → Q (.ref p) H2) → tLc (iList K tl) (gName j) tYes te vs σ H1 Q := fun H0 e0 Q q => h H0 e0 _ fun H1 e1 => ⟨a, rfl, ⟨xs, ex_l (e0.trans e1) hx⟩, fun D hD =>
  lc_list (xs := xs) (NewT F xs H1 D) ⟨hD, Evl.Ex.new hD, [], rfl, upd_same, fun j t x z => by simp at z⟩ (fun i H' _ p => ex_l ((e0.trans e1).trans p.2.1) hx) (fun i x H' hi p => by
    obtain ⟨p1, p2, ts, p3, p4, p5⟩ := p
    refine ⟨hw x, ?_⟩
    show te ((wipe σ vs).set j (some x)) H' fun y H4 => ∃ acc, H4 D = some (.lst acc) ∧ acc.length < sizeLine ∧ NewT F xs H1 D (i + 1) (upd H4 D (.lst (acc ++ [y])))
    refine he i x H' ((e0.trans e1).trans p2) hi H' (Evl.Ex.refl _) _ fun t H4 ht e4 h4 => ⟨ts.map V.ref, e4 _ _ p4, sz_lt (by
      have := (List.getElem?_eq_some_iff.mp hi).1
      rw [List.length_map]
      omega), p1, Evl.Ex.mut (p2.trans e4) p1, ts ++ [t], by simp [p3], by rw [upd_same]; simp, fun k u z hk hz => ?_⟩
    by_cases c : k < ts.length
    · rw [List.getElem?_append_left c] at hk
      have := p5 k u z hk hz
      exact ⟨by rw [upd_ne this.2.2]; exact e4 _ _ this.1, this.2⟩
    · have ck : k = ts.length := by
        have := (List.getElem?_eq_some_iff.mp hk).1
        simp at this
        omega
      subst ck
      rw [p3, hi] at hz
      cases hz
      simp at hk
      subst hk
      have tD : t ≠ D := (fresh_at ht p4).symm
      exact ⟨by rw [upd_ne tD]; exact h4, fresh_back p2 ht, tD⟩)
    (fun H' p => by
      obtain ⟨p1, p2, ts, p3, p4, p5⟩ := p
      exact q D ts H' (fresh_back e1 p1) (e1.trans p2) p4 p3 fun i t x a b => by
        have := p5 i t x a b
        exact ⟨this.1, fresh_back e1 this.2.1, this.2.2⟩)⟩
end
end Gp
namespace Gp
open PySem L2 Evl
local macro_rules | `(tactic| one_sign) => `(tactic| first | exact Evl.Ex.refl _ | assumption | exact Evl.Ex.new (by assumption) | (refine Evl.Ex.trans ?_ (by assumption); one_sign) | (refine Evl.Ex.trans ?_ (Evl.Ex.new (by assumption)); one_sign))
local macro_rules | `(tactic| one_place) => `(tactic| first | assumption | exact upd_same | (refine Evl.ex_l ?_ (by assumption); one_sign) | (refine Evl.ex_t ?_ (by assumption); one_sign) | (refine Evl.sq_of ?_; one_place) | (refine Evl.st_of ?_; one_place) | (refine (show Evl.Ex _ _ from ?_) _ _ (by assumption); one_sign))
local macro_rules | `(tactic| one_item) => `(tactic| first | ((with_reducible apply ev_var); rfl) | (with_reducible exact ev_c) | assumption | (refine Ev.mono ?_ (by assumption); one_sign) | ((with_reducible apply ev_op) <;> one_item) | (with_reducible exact rv_I0) | ((with_reducible refine rv_mod ?_); omega) | ((with_reducible refine rv_div ?_ ?_) <;> omega) | ((with_reducible refine rv_mulL ?_); omega) | ((with_reducible refine rv_mulR ?_); omega) | ((with_reducible refine rv_pow ?_); decide) | ((with_reducible refine rv_eq ?_); rfl) | ((with_reducible refine rv_ne ?_); rfl) | (with_reducible exact rv_isN) | (with_reducible exact rv_notN) | ((with_reducible apply rv_inI); one_place) | ((with_reducible apply rv_niI); one_place) | ((with_reducible apply rv_ixT) <;> (first | rfl | one_place)) | ((with_reducible apply ev_len) <;> (first | one_item | one_place)) | ((with_reducible apply ev_lenT) <;> (first | one_item | one_place)) | (with_reducible exact ea_nil) | ((with_reducible apply ea_cons) <;> one_item) | ((with_reducible apply et_test); one_item) | ((with_reducible apply et_B); one_item) | (with_reducible exact et_yes) | ((with_reducible apply et_not); one_item) | ((with_reducible apply ev_chain) <;> one_item) | ((with_reducible apply ev_notV); one_item))
def sp_law_game (K : PySem.W.Frag) : Sp := fun vs H Q _ => ∃ a ns most, vs = [.ref a, .int most] ∧ SqL K H a (iv ns) ∧ ns.length ≤ 63 ∧ 1 ≤ most ∧ most ≤ 40 ∧ ∀ p H' g rt rw, H p = none → Evl.Ex H H' → GA K H' p g rt rw → OkG g → 1 ≤ g.length → (g.length : Int) ≤ most → Q (.ref p) H'
theorem get_row {g : List Row} {rl : Nat → Addr} {i : Nat} (h : i < g.length) : ((List.range g.length).map fun i => V.ref (rl i))[i]? = some (.ref (rl i)) := by simp [h]
section
variable {K : PySem.W.Frag}
theorem pure_law_mixed (vs : List V) (H : Hp) (Q : VK) (E : XK) (h : sp_law_mixed vs H Q E) : t_law_mixed K { nx := fun _ H' => Q .non H', rt := Q } (start N_law_mixed vs) H := by
  obtain ⟨n, k, rfl, h0, h1, q⟩ := h
  have x0 : (0 : Int) ≤ (n % 2147483647 + 7919 * k * k + 31 * k) * 48271 % 2147483647 := Int.emod_nonneg _ (by decide)
  have x1 : (n % 2147483647 + 7919 * k * k + 31 * k) * 48271 % 2147483647 < 2147483647 := Int.emod_lt_of_pos _ (by decide)
  refine q_asg (v := .int ((n % 2147483647 + 7919 * k * k + 31 * k) * 48271 % 2147483647)) (ev_op (ev_op (ev_op (ev_op (ev_op (ev_var rfl) ev_c (rv_mod (by decide))) (ev_op (ev_op ev_c (ev_var rfl) (rv_mulL (by decide))) (ev_var rfl) (rv_mulR ⟨by omega, by omega⟩)) rv_I0) (ev_op ev_c (ev_var rfl) (rv_mulL (by decide))) rv_I0) ev_c (rv_mulR (by decide))) ev_c (rv_mod (by decide))) fun H1 e1 => ?_
  unfold mixed at q
  generalize (n % 2147483647 + 7919 * k * k + 31 * k) * 48271 % 2147483647 = x at x0 x1 q ⊢
  exact s_ret (σ := [some (.int x), some (.int k)]) (ev_op (ev_op (ev_var rfl) (ev_op ev_c (ev_op ev_c (ev_var rfl) (rv_mulL (by decide))) rv_I0) (rv_mulL ⟨by omega, by omega⟩)) ev_c (rv_mod (by decide))) fun H2 e2 => q.go (e1.trans e2)
theorem OkR.put (m : Int) {r : Row} (h : OkR m r) (a n : Int) (ha : a = 0 ∨ a = 1) (hn : 0 ≤ n) : OkR m (a, n, r.2.2) := ⟨ha, hn, h.2.2⟩
theorem OkR.more {m w : Int} {r : Row} (h : OkR m r) (hw : w ∉ r.2.2) (h0 : 0 ≤ w) (h1 : w < m) : OkR m (r.1, r.2.1, r.2.2 ++ [w]) :=
  ⟨h.1, h.2.1, by simp, by
    show (r.2.2 ++ [w]).Nodup
    rw [List.nodup_append]
    exact ⟨h.2.2.2.1, by simp, fun x hx y hy z => hw (by rw [List.mem_singleton.mp hy] at z; rwa [← z])⟩, fun x hx => by
    rcases List.mem_append.mp hx with hx | hx
    · exact h.2.2.2.2 x hx
    · rw [List.mem_singleton.mp hx]; exact ⟨h0, h1⟩⟩
theorem OkR.less {m : Int} {r : Row} {j : Nat} (h : OkR m r) (h2 : 1 < r.2.2.length) : OkR m (r.1, r.2.1, r.2.2.eraseIdx j) :=
  ⟨h.1, h.2.1, fun z => by
    have z1 : (r.2.2.eraseIdx j).length = 0 := by
      show ((r.1, r.2.1, r.2.2.eraseIdx j) : Row).2.2.length = 0
      rw [z]; rfl
    have := List.length_eraseIdx (l := r.2.2) (i := j)
    split at this <;> omega, h.2.2.2.1.sublist (List.eraseIdx_sublist ..), fun x hx => h.2.2.2.2 x ((List.eraseIdx_sublist ..).subset hx)⟩
theorem first_at {ns : List Int} {w : Int} (h : w ∈ ns) : ∃ j : Nat, ns[j]? = some w ∧ ∀ m : Nat, m < j → ns[m]? ≠ some w := by
  induction ns with
  | nil => cases h
  | cons b r ih =>
    by_cases c : b = w
    · exact ⟨0, by simp [c], fun m hm => absurd hm (Nat.not_lt_zero _)⟩
    · obtain ⟨j, h1, h2⟩ := ih (by
        rcases List.mem_cons.mp h with z | z
        · exact absurd z.symm c
        · exact z)
      refine ⟨j + 1, by simpa using h1, fun m hm => ?_⟩
      cases m with
      | zero => simpa using c
      | succ m => simpa using h2 m (by omega)
theorem s_rem {σ : L2.St} {H : Hp} {D : Ends} {ta tb : TE} {l : Addr} {ns : List Int} {w : Int} {j : Nat} (ha : Ev ta σ H (.ref l)) (hb : Ev tb σ H (.int w)) (hl : H l = some (.lst (iv ns))) (h1 : ns[j]? = some w) (h2 : ∀ m : Nat, m < j → ns[m]? ≠ some w)
    (k : ∀ H1, Evl.Ex H H1 → D.nx σ (upd H1 l (.lst (iv (ns.eraseIdx j))))) : tDrop (tBM K "list" rRemI ta (tCons tb tNil)) D σ H := by
  refine ha H (Evl.Ex.refl _) _ fun H1 e1 => ⟨?_, ?_⟩
  · exact .inl ⟨rfl, _, sq_of (e1 _ _ hl)⟩
  · exact hb H1 e1 _ fun H2 e2 => ⟨l, ns, w, j, rfl, rfl, (e1.trans e2) _ _ hl, h1, h2, k H2 (e1.trans e2)⟩
theorem s_appRow {σ : L2.St} {H : Hp} {D : Ends} {ta tx ty tz : TE} {l : Addr} {xs : List V} {x y z : V} (hl : H l = some (.lst xs)) (ha : Ev ta σ H (.ref l)) (hx : Ev tx σ H x) (hy : Ev ty σ H y) (hw : Ev tz σ H z) (hz : xs.length < 100000)
    (k : ∀ t w H1, H t = none → H w = none → t ≠ w → Evl.Ex H H1 → H1 t = some (.lst [x, y, .ref w]) → H1 w = some (.lst [z]) → D.nx σ (upd H1 l (.lst (xs ++ [.ref t])))) :
    tDrop (tBM K "list" rAppend ta (tCons (tLst (tCons tx (tCons ty (tCons (tLst (tCons tz tNil)) tNil)))) tNil)) D σ H := by
  refine ha H (Evl.Ex.refl _) _ fun H1 e1 => ⟨Or.inl ⟨rfl, xs, sq_of (e1 l _ hl)⟩, ?_⟩
  refine hx H1 e1 _ fun H2 e2 => hy H2 (e1.trans e2) _ fun H3 e3 => ?_
  have e13 := (e1.trans e2).trans e3
  refine el_lst (vs := [z]) (ea_cons hw ea_nil) (by simp) H3 e13 _ fun w H4 hw4 e4 h4 => ?_
  refine ⟨by show 3 ≤ sizeLine; decide, fun t ht => ?_⟩
  have e14 := e13.trans e4
  refine ⟨l, xs, .ref t, rfl, rfl, Evl.Ex.new ht _ _ (e14 _ _ hl), sz_lt hz, ?_⟩
  exact k t w _ (fresh_back e14 ht) (fresh_back e13 hw4) (fresh_at ht h4).symm (e14.trans (Evl.Ex.new ht)) upd_same (Evl.Ex.new ht _ _ h4)
theorem pure_law_game (vs : List V) (H : Hp) (Q : VK) (E : XK) (h : sp_law_game K vs H Q E) : t_law_game K sp_law_mixed { nx := fun _ H' => Q .non H', rt := Q } (start N_law_game vs) H := by
  obtain ⟨a, ns, most, rfl, hs, hlen, h1, h40, q⟩ := h
  -- the number
  refine q_asg (σ := [some (.ref a), some (.int most), none, none, none, none, none, none, none, none, none]) (v := .int (mixed (if ns = [] then 6 else ns.getD 0 0) 1)) (ev_mixed (Ev.to (ev_if (v := .int (if ns = [] then 6 else ns.getD 0 0)) (b := !ns.isEmpty) (et_test (ev_neNil (ev_var rfl) hs)) (fun z => ?_) (fun z => ?_)) rfl) ev_c (by decide) (by decide)) fun H1 e1 => ?_
  · have hn : ns ≠ [] := by intro y; rw [y] at z; cases z
    rw [if_neg hn]
    have := List.length_pos_iff.mpr hn
    exact ev_op (ev_var rfl) ev_c (rv_ixI hs (by decide) (by omega))
  · have hn : ns = [] := by simpa using z
    rw [if_pos hn]
    exact ev_c
  have n0 := mixed_nn (if ns = [] then 6 else ns.getD 0 0) 1
  generalize mixed (if ns = [] then 6 else ns.getD 0 0) 1 = n at n0 ⊢
  refine q_asg (σ := [some (.ref a), some (.int most), some (.int n), none, none, none, none, none, none, none, none]) (v := .int (n % most + 1)) (ev_op (ev_op (ev_var rfl) (ev_var rfl) (rv_mod (by omega))) ev_c rv_I0) fun H2 e2 => ?_
  have m1 : 1 ≤ n % most + 1 ∧ n % most + 1 ≤ most := by
    have := Int.emod_nonneg n (show most ≠ 0 by omega)
    have := Int.emod_lt_of_pos n (show 0 < most by omega)
    omega
  generalize n % most + 1 = m at m1 ⊢
  have wd : ∃ wd : Int, 0 < wd ∧ atI [V.int 2, .int 3, .int 5, .int 1000000000, .int m] (n / 64 % 5) = some (.int wd) := by
    have : n / 64 % 5 = 0 ∨ n / 64 % 5 = 1 ∨ n / 64 % 5 = 2 ∨ n / 64 % 5 = 3 ∨ n / 64 % 5 = 4 := by omega
    rcases this with z | z | z | z | z <;> rw [z]
    · exact ⟨2, by decide, rfl⟩
    · exact ⟨3, by decide, rfl⟩
    · exact ⟨5, by decide, rfl⟩
    · exact ⟨1000000000, by decide, rfl⟩
    · exact ⟨m, by omega, rfl⟩
  obtain ⟨wd, w0, hwd⟩ := wd
  have e02 := e1.trans e2
  have lst5 : EvL (tLst (tCons (tC (.int 2)) (tCons (tC (.int 3)) (tCons (tC (.int 5)) (tCons (tOp rPow (tC (.int 10)) (tC (.int 9))) (tCons (tVar 3) tNil)))))) [some (.ref a), some (.int most), some (.int n), some (.int m), none, none, none, none, none, none, none] H2 [V.int 2, .int 3, .int 5, .int 1000000000, .int m] :=
    el_lst (ea_cons ev_c (ea_cons ev_c (ea_cons ev_c (ea_cons (Ev.to (ev_op ev_c ev_c (rv_pow (by decide))) (by decide)) (ea_cons (ev_var rfl) ea_nil))))) (by simp)
  refine q_asg (σ := [some (.ref a), some (.int most), some (.int n), some (.int m), none, none, none, none, none, none, none]) (ev_opL1 lst5 (y := .int (n / 64 % 5)) (fun H' e => by one_item) fun p H' hp e => rv_ixL (sq_of hp) hwd) fun H3 e3 => ?_
  have e03 := e02.trans e3
  refine q_asgL (σ := [some (.ref a), some (.int most), some (.int n), some (.int m), some (.int wd), none, none, none, none, none, none]) (el_lst ea_nil (by decide)) fun R H4 hR e4 hR4 => ?_
  have hR0 := fresh_back e03 hR
  have m40 : m ≤ 40 := by omega
  -- one way each
  refine q_forR1 (σ := [some (.ref a), some (.int most), some (.int n), some (.int m), some (.int wd), some (.ref R), none, none, none, none, none]) (n := m) (by one_item) (by omega)
    (fun i σ H' => (∃ u6 u7, σ = [some (.ref a), some (.int most), some (.int n), some (.int m), some (.int wd), some (.ref R), u6, u7, none, none, none]) ∧ ∃ rl rw g, g.length = i ∧ MG H H' R rl rw m g)
    (fun H5 e5 => ⟨⟨none, none, rfl⟩, fun _ => 0, fun _ => 0, [], rfl, .nil hR0 ((e03.trans e4).trans e5) (e5 _ _ hR4)⟩) (fun i σ H5 hi p => ?_) (fun σ H5 p => ?_)
  · obtain ⟨⟨u6, u7, rfl⟩, rl, rw', g, gl, M⟩ := p
    refine q_asg (σ := [some (.ref a), some (.int most), some (.int n), some (.int m), some (.int wd), some (.ref R), some (.int (i : Nat)), u7, none, none, none]) (ev_mixed (ev_var rfl) (ev_op ev_c (ev_var rfl) rv_I0) (by omega) (by omega)) fun H6 e6 => ?_
    have mo0 := mixed_nn n (10 + (i : Nat))
    generalize mixed n (10 + (i : Nat)) = mo at mo0 ⊢
    have M6 := M.mono e6
    refine s_appRow (σ := [some (.ref a), some (.int most), some (.int n), some (.int m), some (.int wd), some (.ref R), some (.int (i : Nat)), some (.int mo), none, none, none]) (x := .int (mo % 2)) (y := .int (mo / 2 % wd)) (z := .int (mo / 7 % m)) M6.lst (ev_var rfl) (by one_item) (ev_op (ev_op (ev_var rfl) ev_c (rv_div (by decide) (by decide))) (ev_var rfl) (rv_mod w0)) (ev_op (ev_op (ev_var rfl) ev_c (rv_div (by decide) (by decide))) (ev_var rfl) (rv_mod (by omega))) (by simp; omega) fun t w H7 ht hw tw e7 h7 h7' => ?_
    refine ⟨⟨_, _, rfl⟩, _, _, _, by simp [gl], M6.push e7 (r := (mo % 2, mo / 2 % wd, [mo / 7 % m])) ht hw tw h7 h7' ⟨by show mo % 2 = 0 ∨ mo % 2 = 1; omega, Int.emod_nonneg _ (by omega), by simp, by simp, fun y hy => ?_⟩⟩
    have hy : y = mo / 7 % m := by simpa using hy
    rw [hy]
    exact ⟨Int.emod_nonneg _ (by omega), Int.emod_lt_of_pos _ (by omega)⟩
  obtain ⟨⟨u6, u7, rfl⟩, rl, rw', g, gl, M⟩ := p
  -- the cells
  refine q_forLn (σ := [some (.ref a), some (.int most), some (.int n), some (.int m), some (.int wd), some (.ref R), u6, u7, none, none, none]) (ev_var rfl) (ex_l M.ex hs)
    (fun i σ H' => (∃ u7 u8 u9 u10, σ = [some (.ref a), some (.int most), some (.int n), some (.int m), some (.int wd), some (.ref R), u6, u7, u8, u9, u10]) ∧ ∃ g, g.length = m.toNat ∧ MG H H' R rl rw' m g)
    (fun H6 e => ⟨⟨u7, none, none, none, rfl⟩, g, gl, M.mono e⟩) (fun i σ H' _ p => by
      obtain ⟨_, _, _, M⟩ := p
      exact ex_l M.ex hs) (fun i x σ H6 hx p => ?_) (fun σ H6 p => ?_)
  · clear gl M g
    obtain ⟨⟨u7, u8, u9, u10, rfl⟩, g, gl, M⟩ := p
    obtain ⟨c, hc, rfl⟩ := iv_at hx
    refine q_asg (σ := [some (.ref a), some (.int most), some (.int n), some (.int m), some (.int wd), some (.ref R), u6, u7, some (.int c), u9, u10]) (ev_mixed (ev_var rfl) ev_c (by decide) (by decide)) fun H7 e7 => ?_
    have mo0 := mixed_nn c 2
    generalize mixed c 2 = mo at mo0 ⊢
    have mm0 := Int.emod_nonneg mo (show m ≠ 0 by omega)
    have mm1 := Int.emod_lt_of_pos mo (show 0 < m by omega)
    have ki : (mo % m).toNat < g.length := by omega
    have kc : (((mo % m).toNat : Nat) : Int) = mo % m := by omega
    generalize hk : (mo % m).toNat = k at ki kc
    have M7 := M.mono e7
    refine q_asg (σ := [some (.ref a), some (.int most), some (.int n), some (.int m), some (.int wd), some (.ref R), u6, some (.int mo), some (.int c), u9, u10]) (v := .ref (rl k)) (ev_op (ev_var rfl) (ev_op (ev_var rfl) (ev_var rfl) (rv_mod (by omega))) (by
      rw [← kc]
      exact rv_ixL (sq_of M7.lst) (atI_nat (get_row ki)))) fun H8 e8 => ?_
    have wy0 := Int.emod_nonneg (mo / m) (show m ≠ 0 by omega)
    have wy1 := Int.emod_lt_of_pos (mo / m) (show 0 < m by omega)
    refine q_asg (σ := [some (.ref a), some (.int most), some (.int n), some (.int m), some (.int wd), some (.ref R), u6, some (.int mo), some (.int c), some (.ref (rl k)), u10]) (v := .int (mo / m % m)) (ev_op (ev_op (ev_var rfl) (ev_var rfl) (rv_div (by omega) (by omega))) (ev_var rfl) (rv_mod (by omega))) fun H9 e9 => ?_
    generalize mo / m % m = wy at wy0 wy1 ⊢
    have M9 := (M7.mono e8).mono e9
    clear M7 M
    generalize hr : rowN g k = r at *
    have okr := M9.ok k ki
    have hrow := M9.row k ki
    have hway := M9.way k ki
    rw [hr] at okr hrow hway
    have evr : ∀ H', Evl.Ex H9 H' → ∀ (j : Nat) (v : V), ([V.int r.1, .int r.2.1, .ref (rw' k)])[j]? = some v → Ev (tOp (rIxL K) (tVar 9) (tC (.int (j : Int)))) [some (.ref a), some (.int most), some (.int n), some (.int m), some (.int wd), some (.ref R), u6, some (.int mo), some (.int c), some (.ref (rl k)), some (.int wy)] H' v := fun H' e j v hv => ev_op (ev_var rfl) ev_c (rv_ixL (sq_of (e _ _ hrow)) (atI_nat hv))
    refine s_if (σ := [some (.ref a), some (.int most), some (.int n), some (.int m), some (.int wd), some (.ref R), u6, some (.int mo), some (.int c), some (.ref (rl k)), some (.int wy)]) (b := decide (V.int (mo / 1009 % 8) = V.int 0)) (by one_item) (fun z H10 e10 => ?_) (fun z H10 e10 => ?_)
    · refine s_setL (j := 0) (v := .int (1 - r.1)) (e10 _ _ hrow) (ev_op ev_c (evr _ e10 0 _ rfl) rv_I0) (ev_var rfl) ev_c (by simp) fun H11 e11 => ⟨⟨_, _, _, _, rfl⟩, g.set k (1 - r.1, r.2.1, r.2.2), by rw [List.length_set]; exact gl, ?_⟩
      have := ((M9.mono e10).mono e11).setRow ki (a := 1 - r.1) (n := r.2.1) (by rw [hr]; exact okr.put m _ _ (by have := okr.1; omega) okr.2.1)
      rw [hr] at this
      exact this
    · refine s_if (σ := [some (.ref a), some (.int most), some (.int n), some (.int m), some (.int wd), some (.ref R), u6, some (.int mo), some (.int c), some (.ref (rl k)), some (.int wy)]) (b := decide (V.int (mo / 1009 % 8) = V.int 1)) (by one_item) (fun z H11 e11 => ?_) (fun z H11 e11 => ?_)
      · refine s_setL (j := 1) (v := .int (mixed mo 3 % wd)) (e11 _ _ (e10 _ _ hrow)) (ev_op (ev_mixed (ev_var rfl) ev_c (by decide) (by decide)) (ev_var rfl) (rv_mod w0)) (ev_var rfl) ev_c (by simp) fun H12 e12 => ⟨⟨_, _, _, _, rfl⟩, g.set k (r.1, mixed mo 3 % wd, r.2.2), by rw [List.length_set]; exact gl, ?_⟩
        have := (((M9.mono e10).mono e11).mono e12).setRow ki (a := r.1) (n := mixed mo 3 % wd) (by rw [hr]; exact okr.put m _ _ okr.1 (Int.emod_nonneg _ (by omega)))
        rw [hr] at this
        exact this
      · have e911 := e10.trans e11
        refine s_if (σ := [some (.ref a), some (.int most), some (.int n), some (.int m), some (.int wd), some (.ref R), u6, some (.int mo), some (.int c), some (.ref (rl k)), some (.int wy)]) (b := !decide (wy ∈ r.2.2)) (et_test (ev_op (ev_var rfl) (evr _ e911 2 _ rfl) (rv_niI (sq_of (e911 _ _ hway))))) (fun z H12 e12 => ?_) (fun z H12 e12 => ?_)
        · have e912 := e911.trans e12
          refine s_app (xs := iv r.2.2) (v := .int wy) (e912 _ _ hway) (evr _ e912 2 _ rfl) (ev_var rfl) (by have := okr.few; rw [List.length_map]; omega) fun H13 e13 => ⟨⟨_, _, _, _, rfl⟩, g.set k (r.1, r.2.1, r.2.2 ++ [wy]), by rw [List.length_set]; exact gl, ?_⟩
          have := ((M9.mono e912).mono e13).setWay ki (ws := r.2.2 ++ [wy]) (by rw [hr]; exact okr.more (by simpa using z) wy0 wy1)
          rw [hr] at this
          have e : iv r.2.2 ++ [V.int wy] = iv (r.2.2 ++ [wy]) := by unfold iv; rw [List.map_append]; rfl
          rw [e]
          exact this
        · have e912 := e911.trans e12
          refine s_when (σ := [some (.ref a), some (.int most), some (.int n), some (.int m), some (.int wd), some (.ref R), u6, some (.int mo), some (.int c), some (.ref (rl k)), some (.int wy)]) (b := decide (1 < (r.2.2.length : Int))) (et_test (Ev.to (ev_op (ev_len (evr _ e912 2 _ rfl) (sq_of (e912 _ _ hway))) ev_c rv_I0) (by simp))) (fun z2 H13 e13 => ?_) (fun z2 H13 e13 => ⟨⟨_, _, _, _, rfl⟩, g, gl, (M9.mono e912).mono e13⟩)
          have e913 := e912.trans e13
          obtain ⟨j, hj, hj2⟩ := first_at (ns := r.2.2) (w := wy) (by simpa using z)
          refine s_rem (ns := r.2.2) (w := wy) (j := j) (evr _ e913 2 _ rfl) (ev_var rfl) (e913 _ _ hway) hj hj2 fun H14 e14 => ⟨⟨_, _, _, _, rfl⟩, g.set k (r.1, r.2.1, r.2.2.eraseIdx j), by rw [List.length_set]; exact gl, ?_⟩
          have := ((M9.mono e913).mono e14).setWay ki (ws := r.2.2.eraseIdx j) (by rw [hr]; exact okr.less (by have := of_decide_eq_true z2; omega))
          rw [hr] at this
          exact this
  · clear gl M g
    obtain ⟨⟨u7, u8, u9, u10, rfl⟩, g, gl, M⟩ := p
    let F : V → List V := fun x => match x with
      | .ref t => match H6 t with
        | some (.lst vs) => vs
        | _ => []
      | _ => []
    have FR : ∀ i, i < g.length → F (.ref (rl i)) = [.int (rowN g i).1, .int (rowN g i).2.1, .ref (rw' i)] := fun i hi => by
      show (match H6 (rl i) with | some (.lst vs) => vs | _ => []) = _
      rw [M.row i hi]
    refine lc_newT F (ev_var rfl) (sq_of M.lst) (by simp; omega) (fun _ => rfl) (fun i x H7 e7 hx => ?_) H6 (Evl.Ex.refl _) _ fun p ts H7 hp e7 h7 tl hts => ?_
    · have hi : i < g.length := by
        have := (List.getElem?_eq_some_iff.mp hx).1
        simpa using this
      rw [get_row hi] at hx
      cases hx
      rw [FR i hi]
      have hrow := e7 _ _ (M.row i hi)
      exact eu_tup (ea_cons (ev_op (ev_var rfl) ev_c (rv_ixL (i := 0) (sq_of hrow) rfl)) (ea_cons (ev_op (ev_var rfl) ev_c (rv_ixL (i := 1) (sq_of hrow) rfl)) (ea_cons (ev_op (ev_var rfl) ev_c (rv_ixL (i := 2) (sq_of hrow) rfl)) ea_nil))) (by simp)
    · have tl2 : ts.length = g.length := by rw [tl]; simp
      have tsr : ts.map V.ref = (List.range g.length).map fun i => V.ref (ts.getD i 0) := by
        apply List.ext_getElem?
        intro i
        by_cases c : i < g.length
        · simp [c, tl2]
        · rw [List.getElem?_eq_none (by simp [tl2]; omega), List.getElem?_eq_none (by simp; omega)]
      have ok := M.okG (by omega) (by omega)
      refine q p H7 g (fun i => ts.getD i 0) rw' (fresh_back M.ex hp) (M.ex.trans e7) ⟨by rw [← tsr]; exact sq_of h7, fun i hi => ?_, fun i hi => sq_of (e7 _ _ (M.way i hi))⟩ ok (by omega) (by omega)
      have hti : ts[i]? = some (ts.getD i 0) := by simp [List.getD, tl2, hi]
      have := (hts i _ _ hti (get_row hi)).1
      rw [FR i hi] at this
      exact st_of this
end
end Gp
namespace Gp
open PySem L2 Evl
/-! ### what may be compared, and is itself -/
def ShD (n : Nat) (d : PyData) : Prop := d.canLay0 = true ∧ d.depth ≤ n ∧ PyData.eqv d d = true
theorem shd_int {n : Nat} (i : Int) : ShD n (.int i) := ⟨rfl, Nat.zero_le _, by show (i == i) = true; simp⟩
theorem shd_non {n : Nat} : ShD n .none := ⟨rfl, Nat.zero_le _, rfl⟩
theorem shd_bool {n : Nat} (b : Bool) : ShD n (.bool b) := ⟨rfl, Nat.zero_le _, by cases b <;> rfl⟩
theorem shd_all {n : Nat} : ∀ ds : List PyData, (∀ d ∈ ds, ShD n d) → PyData.canLayAll0 ds = true ∧ PyData.depthAll ds ≤ n ∧ PyData.eqvAll ds ds = true
  | [], _ => ⟨rfl, Nat.zero_le _, rfl⟩
  | d :: r, h => by
    obtain ⟨h1, h2, h3⟩ := h d List.mem_cons_self
    obtain ⟨r1, r2, r3⟩ := shd_all r fun x hx => h x (List.mem_cons_of_mem _ hx)
    refine ⟨?_, ?_, ?_⟩
    · show (d.canLay0 && PyData.canLayAll0 r) = true
      rw [h1, r1]; rfl
    · show max d.depth (PyData.depthAll r) ≤ n
      omega
    · show (PyData.eqv d d && PyData.eqvAll r r) = true
      rw [h3, r3]; rfl
theorem shd_list {n : Nat} {ds : List PyData} (h : ∀ d ∈ ds, ShD n d) : ShD (n + 1) (.list ds) := by
  obtain ⟨a, b, c⟩ := shd_all ds h
  exact ⟨a, Nat.succ_le_succ b, c⟩
theorem shd_tup {n : Nat} {ds : List PyData} (h : ∀ d ∈ ds, ShD n d) : ShD (n + 1) (.tuple ds) := by
  obtain ⟨a, b, c⟩ := shd_all ds h
  exact ⟨a, Nat.succ_le_succ b, c⟩
theorem shd_iv {n : Nat} (ns : List Int) : ShD (n + 1) (.list (ns.map PyData.int)) := shd_list fun d hd => by
  obtain ⟨i, _, rfl⟩ := List.mem_map.mp hd
  exact shd_int i
theorem ShD.shaped {n : Nat} {d : PyData} (h : ShD n d) (hn : n ≤ 64 := by decide) : SeqAt.shaped d = true := by
  show (d.canLay0 && decide (d.depth ≤ 64)) = true
  rw [h.1, decide_eq_true (Nat.le_trans h.2.1 hn)]
  rfl
theorem ints_eqv : ∀ a b : List Int, PyData.eqv (.list (a.map PyData.int)) (.list (b.map PyData.int)) = decide (a = b)
  | [], [] => rfl
  | [], b :: r => rfl
  | a :: r, [] => rfl
  | a :: r, b :: s => by
    have ih := ints_eqv r s
    show (PyData.eqv (.int a) (.int b) && PyData.eqv (.list (r.map PyData.int)) (.list (s.map PyData.int))) = _
    rw [ih]
    show ((a == b) && decide (r = s)) = decide (a :: r = b :: s)
    by_cases h1 : a = b <;> by_cases h2 : r = s <;> simp [h1, h2]
def dRow (r : Row) : PyData := .tuple [.int r.1, .int r.2.1, .list (r.2.2.map PyData.int)]
def dGame (g : List Row) : PyData := .list (g.map dRow)
theorem shd_row {n : Nat} (r : Row) : ShD (n + 2) (dRow r) := shd_tup fun d hd => by
  simp only [List.mem_cons, List.not_mem_nil, or_false] at hd
  rcases hd with rfl | rfl | rfl
  · exact shd_int _
  · exact shd_int _
  · exact shd_iv _
theorem shd_game {n : Nat} (g : List Row) : ShD (n + 3) (dGame g) := shd_list fun d hd => by
  obtain ⟨r, _, rfl⟩ := List.mem_map.mp hd
  exact shd_row r
section
variable {K : PySem.W.Frag} {σ : L2.St} {H : Hp} {te ta tb : TE}
theorem rowN_get {g : List Row} {i : Nat} (h : i < g.length) : g[i] = rowN g i := by simp [rowN, h]
theorem GA.dp {a : Addr} {g : List Row} {rt rw : Nat → Addr} (G : GA K H a g rt rw) : Dp K H (.ref a) (dGame g) := by
  refine .lst G.lst ?_
  have key : ∀ l : List Nat, (∀ i ∈ l, i < g.length) → DpAll K H (l.map fun i => V.ref (rt i)) (l.map fun i => dRow (rowN g i)) := by
    intro l
    induction l with
    | nil => intro _; exact .nil
    | cons i r ih =>
      intro h
      exact .cons (.tup (G.row i (h i List.mem_cons_self)) (.cons (.int _) (.cons (.int _) (.cons (dp_iv (G.way i (h i List.mem_cons_self))) .nil)))) (ih fun j hj => h j (List.mem_cons_of_mem _ hj))
  have e : g.map dRow = (List.range g.length).map fun i => dRow (rowN g i) := by
    apply List.ext_getElem
    · simp
    · intro i h1 h2
      simp [rowN_get]
  show DpAll K H _ (g.map dRow)
  rw [e]
  exact key _ fun i hi => List.mem_range.mp hi
theorem el_slN {tl th : TO} {xs : List V} {lo hi : Option Int} (h : EvL te σ H xs) (h1 : EvO tl σ H lo) (h2 : EvO th σ H hi) : EvL (tSl (rSlL K) te tl th) σ H (cutV xs lo hi) := fun H1 e _ q =>
  h H1 e _ fun a H2 _ e2 h3 => h1 H2 (e.trans e2) _ fun H3 e3 => h2 H3 ((e.trans e2).trans e3) _ fun H4 e4 =>
    ⟨a, xs, rfl, sq_of (e4 _ _ (e3 _ _ h3)), fun p hp => q p _ (fresh_back ((e2.trans e3).trans e4) hp) (((e2.trans e3).trans e4).trans (Evl.Ex.new hp)) upd_same⟩
theorem el_catV {p q : Addr} {xs ys : List V} (ha : Ev ta σ H (.ref p)) (hb : Ev tb σ H (.ref q)) (hp : H p = some (.lst xs)) (hq : H q = some (.lst ys)) (hz : xs.length + ys.length ≤ 100000) : EvL (tOp rCat ta tb) σ H (xs ++ ys) := fun H1 e Q k =>
  ha H1 e _ fun H2 e2 => hb H2 (e.trans e2) _ fun H3 e3 => ⟨p, q, xs, ys, rfl, rfl, ((e.trans e2).trans e3) _ _ hp, ((e.trans e2).trans e3) _ _ hq, sz_of hz, fun p3 hp3 => k p3 _ (fresh_back (e2.trans e3) hp3) ((e2.trans e3).trans (Evl.Ex.new hp3)) upd_same⟩
/-- a new list of ints against [] -/
theorem ev_neNilN {ns : List Int} (h : EvL te σ H (iv ns)) : Ev (tOp (rNeD K) te (tLst tNil)) σ H (.bl (!ns.isEmpty)) :=
  ev_opLL h (el_lst ea_nil (by decide)) fun p q H1 hp hq e => by
    have r := rv_neD (dp_iv (sq_of hp)) (Dp.lst (K := K) (sq_of hq) .nil) (shaped_iv ns) rfl
    rwa [eqv_nil] at r
end
end Gp
namespace Gp
open PySem L2 Evl
section
variable {K : PySem.W.Frag} {σ : L2.St} {H : Hp}
/-- a list of ints: new, or one that stood in H -/
def EvW (K : PySem.W.Frag) (te : TE) (σ : L2.St) (H : Hp) (ns : List Int) : Prop := ∀ H1, Evl.Ex H H1 → ∀ Q : VK, (∀ w H2, Evl.Ex H1 H2 → (SqL K H w (iv ns) ∨ (H2 w = some (.lst (iv ns)) ∧ H1 w = none)) → Q (.ref w) H2) → te σ H1 Q
theorem EvW.new {te : TE} {ns : List Int} (h : EvL te σ H (iv ns)) : EvW K te σ H ns := fun H1 e Q q => h H1 e _ fun p H2 hp e2 h2 => q p H2 e2 (.inr ⟨h2, hp⟩)
theorem EvW.old {te : TE} {ns : List Int} {a : Addr} (h : Ev te σ H (.ref a)) (hs : SqL K H a (iv ns)) : EvW K te σ H ns := fun H1 e Q q => h H1 e _ fun H2 e2 => q a H2 e2 (.inl hs)
/-- rows that are made, one for each row -/
def NewR (K : PySem.W.Frag) (f : Nat → Row) (H1 : Hp) (D : Addr) (i : Nat) (H' : Hp) : Prop := H1 D = none ∧ Evl.Ex H1 H' ∧ ∃ rt rw : Nat → Addr, H' D = some (.lst ((List.range i).map fun j => V.ref (rt j))) ∧
  ∀ j, j < i → H' (rt j) = some (.tup [.int (f j).1, .int (f j).2.1, .ref (rw j)]) ∧ rt j ≠ D ∧ (SqL K H1 (rw j) (iv (f j).2.2) ∨ (H' (rw j) = some (.lst (iv (f j).2.2)) ∧ rw j ≠ D))
def putA (f : Nat → Addr) (n : Nat) (t : Addr) : Nat → Addr := fun i => if i = n then t else f i
theorem putA_eq {f : Nat → Addr} {n : Nat} {t : Addr} : putA f n t n = t := if_pos rfl
theorem putA_lt {f : Nat → Addr} {n : Nat} {t : Addr} {i : Nat} (h : i < n) : putA f n t i = f i := if_neg (by omega)
theorem putA_map {f : Nat → Addr} {n : Nat} {t : Addr} : ((List.range (n + 1)).map fun j => V.ref (putA f n t j)) = ((List.range n).map fun j => V.ref (f j)) ++ [V.ref t] := by
  rw [List.range_succ, List.map_append]
  have z1 : (List.range n).map (fun j => V.ref (putA f n t j)) = (List.range n).map fun j => V.ref (f j) := List.map_congr_left fun i hi => by rw [putA_lt (List.mem_range.mp hi)]
  have z2 : [n].map (fun j => V.ref (putA f n t j)) = [V.ref t] := by
    show [V.ref (putA f n t n)] = _
    rw [putA_eq]
  rw [z1, z2]
/-- [(.., .., ..) for .., .., .. in game]: a new game -/
theorem lc_rowsC {H1 : Hp} {a : Addr} {g : List Row} {rt rw : Nat → Addr} {i1 i2 i3 : Nat} {e1 e2 e3 : TE} {Q : VK} (f : Nat → Row) (G : GA K H1 a g rt rw) (h40 : g.length ≤ 40)
    (hw : ∀ x y z, wipe ((((wipe σ [i1, i2, i3]).set i1 (some x)).set i2 (some y)).set i3 (some z)) [i1, i2, i3] = wipe σ [i1, i2, i3])
    (he1 : ∀ i, i < g.length → Ev e1 ((((wipe σ [i1, i2, i3]).set i1 (some (.int (rowN g i).1))).set i2 (some (.int (rowN g i).2.1))).set i3 (some (.ref (rw i)))) H1 (.int (f i).1))
    (he2 : ∀ i, i < g.length → Ev e2 ((((wipe σ [i1, i2, i3]).set i1 (some (.int (rowN g i).1))).set i2 (some (.int (rowN g i).2.1))).set i3 (some (.ref (rw i)))) H1 (.int (f i).2.1))
    (he3 : ∀ i, i < g.length → EvW K e3 ((((wipe σ [i1, i2, i3]).set i1 (some (.int (rowN g i).1))).set i2 (some (.int (rowN g i).2.1))).set i3 (some (.ref (rw i)))) H1 (f i).2.2)
    (q : ∀ p rt' rw' H2, H1 p = none → Evl.Ex H1 H2 → GA K H2 p ((List.range g.length).map f) rt' rw' → Q (.ref p) H2) :
    tLc (iList K (tC (.ref a))) (gTup K 3 (gCons (gName i1) (gCons (gName i2) (gCons (gName i3) gNil)))) tYes (tTup (tCons e1 (tCons e2 (tCons e3 tNil)))) [i1, i2, i3] σ H1 Q :=
  ⟨a, rfl, ⟨_, G.lst⟩, fun D hD => lc_list (xs := (List.range g.length).map fun i => V.ref (rt i)) (NewR K f H1 D) ⟨hD, Evl.Ex.new hD, fun _ => 0, fun _ => 0, upd_same, fun j hj => absurd hj (Nat.not_lt_zero _)⟩ (fun i H' _ p => ex_l p.2.1 G.lst) (fun i x H' hi p => by
    obtain ⟨p1, p2, rt', rw', p3, p4⟩ := p
    have hi' : i < g.length := by
      have := (List.getElem?_eq_some_iff.mp hi).1
      simpa using this
    have hx : x = .ref (rt i) := by
      rw [List.getElem?_map, List.getElem?_range hi'] at hi
      exact (Option.some.inj hi).symm
    subst hx
    refine g_trip (ex_t p2 (G.row i hi')) ⟨hw _ _ _, ?_⟩
    show (tTup (tCons e1 (tCons e2 (tCons e3 tNil)))) ((((wipe σ [i1, i2, i3]).set i1 (some (.int (rowN g i).1))).set i2 (some (.int (rowN g i).2.1))).set i3 (some (.ref (rw i)))) H' fun y H4 => ∃ acc, H4 D = some (.lst acc) ∧ acc.length < sizeLine ∧ NewR K f H1 D (i + 1) (upd H4 D (.lst (acc ++ [y])))
    refine he1 i hi' H' p2 _ fun H3 e3 => he2 i hi' H3 (p2.trans e3) _ fun H4 e4 => he3 i hi' H4 ((p2.trans e3).trans e4) _ fun w H5 e5 hw5 => ⟨by show 3 ≤ sizeLine; decide, fun t ht => ?_⟩
    have e35 := (e3.trans e4).trans e5
    have hD5 := e35 _ _ p3
    have tD : t ≠ D := (fresh_at ht hD5).symm
    refine ⟨_, Evl.Ex.new ht _ _ hD5, sz_lt (by simp; omega), p1, Evl.Ex.mut ((p2.trans e35).trans (Evl.Ex.new ht)) p1, putA rt' i t, putA rw' i w, by rw [upd_same, putA_map], fun j hj => ?_⟩
    by_cases c : j < i
    · rw [putA_lt c, putA_lt c]
      obtain ⟨q1, q2, q3⟩ := p4 j c
      refine ⟨by rw [upd_ne q2]; exact Evl.Ex.new ht _ _ (e35 _ _ q1), q2, ?_⟩
      rcases q3 with q3 | q3
      · exact .inl q3
      · exact .inr ⟨by rw [upd_ne q3.2]; exact Evl.Ex.new ht _ _ (e35 _ _ q3.1), q3.2⟩
    · have cj : j = i := by omega
      subst cj
      rw [putA_eq, putA_eq]
      refine ⟨by rw [upd_ne tD]; exact upd_same, tD, ?_⟩
      rcases hw5 with hw5 | hw5
      · exact .inl hw5
      · have wD : w ≠ D := (fresh_at hw5.2 (e4 _ _ (e3 _ _ p3))).symm
        exact .inr ⟨by rw [upd_ne wD]; exact Evl.Ex.new ht _ _ hw5.1, wD⟩) (fun H' p => by
    obtain ⟨p1, p2, rt', rw', p3, p4⟩ := p
    have ll : ((List.range g.length).map fun i => V.ref (rt i)).length = g.length := by simp
    rw [ll] at p3 p4
    have lf : ((List.range g.length).map f).length = g.length := by simp
    have rf : ∀ i, i < g.length → rowN ((List.range g.length).map f) i = f i := fun i hi => by simp [rowN, hi]
    refine q D rt' rw' H' p1 p2 ⟨by rw [lf]; exact sq_of p3, fun i hi => ?_, fun i hi => ?_⟩
    · rw [lf] at hi
      rw [rf i hi]
      exact st_of (p4 i hi).1
    · rw [lf] at hi
      rw [rf i hi]
      rcases (p4 i hi).2.2 with z | z
      · exact ex_l p2 z
      · exact sq_of z.1)⟩
theorem GA.copy {g : List Row} : (List.range g.length).map (rowN g) = g := by
  apply List.ext_getElem
  · simp
  · intro i h1 h2
    simp [rowN_get]
end
end Gp
namespace Gp
open L2 PySem PySem.Spec PyProof.Rows
abbrev emptyS (w : World) : Obj := { cls := .type "set", dict := none, data := .set #[] 0 (.fresh 0 0 (!w.params.followText "set-order")) }
section
variable {w : World} {P : Program} {A : Around} {E : Value → Shared → Prop} {s : Shared}
theorem set_of_list {l : Addr} {items : Array Value} (ns : List Int) {Q : Value → Shared → Prop} (hhk : A.handled = none) (hlk : s.heap.IsList l items) (itk : IntsAre items.toList ns) (bbk : ns.length + 1 < scanBound)
    (fin : ∀ (h' : Heap) (tk c : Nat), SetR w h' s.heap.objs.size (fun j => decide (j ∈ ns)) c → c ≤ ns.length → (∀ b o, s.heap.get? b = some o → h'.get? b = some o) → Q (.ref s.heap.objs.size) { s with heap := h', toks := tk }) :
    wpAny (model P w) A (call (.type "set") ([.ref l] : List Value)) Q E s := by
  have szk : items.size = ns.length := by
    have q := IntsAre.length itk
    rw [Array.length_toList] at q
    exact q
  obtain ⟨c, tl, mk⟩ := F.called_set.mro
  have made := F.called_set.made
  have subk := F.called_set.sub
  refine wpAny_call (codeAny_of_tree ?_); show wpAny _ _ (callAny (.type "set") _) _ _ _
  refine wpAny_pure ⟨Code.quiet_builtin _ (by decide +kernel), codeAny_builtin F.entry_type_call ?_⟩; rw [Around.under_plain (weight_type_call_type "set" [.ref l] []) rfl]
  have n1 := F.called_set.notType
  have n2 := F.called_set.canCreate
  have ctk := F.typeCall_set_1 (.ref l)
  repeat (any_goals first | assumption | wp_step)

  refine codeAny_mono (code_set_led1 (.ref l) (E := E) (Q₁ := fun obj s₁ => obj = .ref s.heap.objs.size ∧ s₁ = { s with heap := s.heap.push (emptyS w) }) ⟨rfl, rfl⟩) fun r s₁ rk => ?_
  cases r with
  | error e => exact rk
  | ok fl =>
    cases fl with
    | ret obj =>
      obtain ⟨rfl, rfl⟩ := rk
      have sk : (s.heap.push (emptyS w)).get? s.heap.objs.size = some (emptyS w) := Heap.get?_push_size _ rfl
      have tk1 : Shared.TypeIs { s with heap := s.heap.push (emptyS w) } (.ref s.heap.objs.size) "set" := ⟨_, sk, rfl⟩
      have lik := F.called_set.init.lookup
      have bik := F.called_set.init.bind (.ref s.heap.objs.size)
      repeat (any_goals first | assumption | wp_step)

      refine codeAny_mono (codeAny_call_builtin (R := wants (fun v s₂ => v = .none ∧ ∃ h' tk c, s₂ = { s with heap := h', toks := tk } ∧ SetR w h' s.heap.objs.size (fun j => decide (j ∈ ns)) c ∧ c ≤ ns.length ∧
          (∀ b o, s.heap.get? b = some o → h'.get? b = some o)) E) F.called_set.init.plain F.entry_set_init (check_set_init_1 tk1 ?_)) fun r₂ s₂ hr₂ => ?_
      · obtain ⟨ol, ok1, ck, nl, dk⟩ := hlk
        obtain ⟨oc, od, oda, os1⟩ := ol
        simp only at ck dk
        subst ck; subst dk
        have ok2 : (s.heap.push (emptyS w)).get? l = some { cls := .type "list", dict := od, data := .seq items nl, slots := os1 } := Heap.get?_push_of_some _ ok1
        have ss1 := F.sub_list_set
        have ss2 := F.sub_list_frozenset
        have nek : (Value.type "list" == Value.type "dict") = false := by decide
        have lk : (s.heap.push (emptyS w)).IsList l items := ⟨_, ok2, rfl, nl, rfl⟩
        (unfold Builtin.«set.__init__» noKeywords Builtin.Frozenset.updateFrom)
        generalize pik : pyIter = PI
        wp_walk
        subst pik

        refine wpAny_pyIter_list lk ?_
        refine (wpAny_bind (wpAny_runValue ?_))
        have ltk : l < s.heap.objs.size := Heap.lt_size ok1
        have hk3 : A.in1.in1.in1.handled = none := by simp [hhk]
        have zk1 : (s.heap.push (emptyS w)).objs.size = s.heap.objs.size + 1 := Heap.size_push ..
        have nik : l ≠ (s.heap.push (emptyS w)).objs.size := by
          rw [Heap.size_push]; exact Nat.ne_of_lt (Nat.lt_succ_of_lt ltk)
        have sfk : s.heap.objs.size ∉ [(s.heap.push (emptyS w)).objs.size, l] := by
          rw [Heap.size_push]; simp only [List.mem_cons, List.not_mem_nil, List.mem_singleton, or_false, not_or]
          exact ⟨Nat.ne_of_lt (Nat.lt_succ_self _), Nat.ne_of_gt ltk⟩
        have vk : ∀ (i : Nat) (v : Value), items[i]? = some v → ∃ k t, ns[i]? = some k ∧ v = .int k t := fun i v hvk => by
          have hi : i < ns.length := by rw [← szk]; exact (Array.getElem?_eq_some_iff.mp hvk).1
          obtain ⟨t, e⟩ := PyProof.Rows.IntsAre.int_at itk i v (by rw [Array.getElem?_toList]; exact hvk)
          refine ⟨ns[i], t, (List.getElem?_eq_getElem hi), ?_⟩
          (rw [e, List.getD_eq_getElem?_getD, List.getElem?_eq_getElem hi] <;> rfl)
        refine set_update_ints ((Walks.list hk3 _ l nik items).toS) s.heap.objs.size
          sfk ns szk bbk vk (items.size - 0) 0 _ (by omega) (Nat.zero_le _)
          ⟨⟨_, Heap.get?_push_size _ rfl, rfl, rfl⟩, (lk.push _)⟩ ?hS0 ?hR
        case hS0 =>
          have gk : ((s.heap.push (emptyS w)).push { cls := .type "list_iterator", data := .fields #[.ref l, .int 0 0] }).get? s.heap.objs.size
              = some (emptyS w) := Heap.get?_push_of_some _ sk
          exact ⟨0, Nat.le_refl 0, setR_new_at gk⟩
        case hR =>
          intro s' c' mm cc sss
          obtain ⟨h', g3, d', tk', os'⟩ := s'
          have g1 : g3 = s.gens := mm.gens
          have d1 : d' = s.drawn := mm.drawn
          have o1 : os' = s.os := mm.os
          subst g1; subst d1; subst o1
          show wpAny _ _ _ _ _ _
          refine wpAny_pure ?_
          (show wpAny _ _ (ret Value.none) _ _ _)
          rw [szk] at cc
          refine wpAny_pure ⟨rfl, h', tk', c', rfl, sss, cc, fun b o e => ?_⟩
          have b0 : b < s.heap.objs.size := Heap.lt_size e
          have b1 : b ≠ s.heap.objs.size := Nat.ne_of_lt b0
          have b2 : b ≠ (s.heap.push (emptyS w)).objs.size := by
            rw [Heap.size_push]; exact Nat.ne_of_lt (Nat.lt_succ_of_lt b0)
          exact mm.heap b o (by simp only [List.mem_cons, List.mem_singleton, List.not_mem_nil, or_false, not_or]; exact ⟨b1, b2⟩) (Heap.get?_push_of_some _ (Heap.get?_push_of_some _ e))

      · cases r₂ with
        | error e => exact hr₂
        | ok fl₂ =>
          cases fl₂ with
          | ret r =>
            obtain ⟨rfl, h', tk, c', rfl, sss, cc, kkk⟩ := hr₂
            repeat (any_goals first | assumption | wp_step)
            exact fin _ _ _ sss cc kkk
          | _ => exact hr₂.elim
    | _ => exact rk.elim

end
end Gp
namespace Gp
open L2 PySem PySem.Spec PyProof.Rows
/-- sorted(set(xs)), xs ints, fewer than 64 -/
def tSortedSet (K : PySem.W.Frag) (ta : TE) : TE := fun σ H Q => ta σ H fun x H1 => ∃ (l : Addr) (ns : List Int), x = .ref l ∧ SqL K H1 l (ns.map V.int) ∧ ns.length < 64 ∧
  ∀ (ms : List Int) (p : Addr), ms.Pairwise (· < ·) → (∀ k, k ∈ ms ↔ k ∈ ns) → H1 p = none → Q (.ref p) (upd H1 p (.lst (ms.map V.int)))
theorem pe_sortedSet {X : Cx} {a : Expr} {ta : TE} {p p2 q pos : Pos} (hg : Gl X "sorted") (hm : X.mg "sorted" = none) (hg2 : Gl X "set") (hm2 : X.mg "set" = none) (ha : PE X a ta) (hc : X.calm = true := by rfl)
    (na : starEach [a] X.env = (false, eval a X.env) :: starEach [] X.env := by rfl) : PE X (.Call (.Name "sorted" p) [.Call (.Name "set" p2) [a] [] q] [] pos) (tSortedSet X.K ta) := by
  constructor
  intro pins s σ H Q I h
  refine PyProof.Rows.Call_ (ld_blt I hg hm PyProof.Rows.boot_sorted ?_)
  refine PyProof.Rows.callWith_builtin1 (PyProof.Rows.args_cons ?_ rfl) rfl rfl
  refine PyProof.Rows.Call_ (ld_blt I hg2 hm2 PyProof.Rows.boot_set ?_)
  refine PyProof.Rows.callWith_type1 (PyProof.Rows.args_cons (thn (ha.run pins s σ H _ I h) ?_) na) na rfl
  rintro v s1 ⟨x, H1, I1, r1, l, ns, ex, hq, hl, q1⟩
  refine PyProof.Rows.args_nil ?_
  subst ex
  cases r1
  obtain ⟨its, r, pl, hz⟩ := I1.list hq
  refine set_of_list ns (I1.ok.hd hc) pl.isList (by simpa using intsAre_of r) (by unfold scanBound; omega) fun h' tk c hS hcn hk => ?_
  refine PyProof.Rows.args_nil ?_
  have I2 : Inv X pins σ H1 { s1 with heap := h', toks := tk } := I1.kept hk
  refine sorted_set hS (I2.ok.hd hc) (by omega) fun s' p out c ns2 k g o hp hg hi hs hm hl2 => ?_
  have hlen : (ns2.map V.int).length ≤ sizeLine := Evl.sz_of (by rw [List.length_map, hl2]; omega)
  have hn : H1 p = none := I2.hok.fresh hp
  have J : Inv X pins σ (upd H1 p (.lst (ns2.map V.int))) { ({ s1 with heap := h', toks := tk } : Shared) with heap := s'.heap, gens := s'.gens, drawn := s'.drawn, toks := s'.toks } :=
    I2.call (ch := []) (Un.laid k hp hn) (I2.hok.laid k hp ⟨hlen, out.toList, _, vals_of_ints hi, hg⟩) (by rw [g]; exact I2.bare) fun _ z => nomatch z
  have e : s' = { ({ s1 with heap := h', toks := tk } : Shared) with heap := s'.heap, gens := s'.gens, drawn := s'.drawn, toks := s'.toks } := by
    cases s'
    cases s1
    cases o
    rfl
  rw [e]
  exact ⟨.ref p, _, J, rfl, q1 ns2 p hs (fun j => by rw [hm j]; simp) hn⟩
end Gp
namespace L2
open PyProof.Rows PySem.Spec PySem
/-- an exception that was caught, kept -/
def ExK (cls : Value) (d : Option Addr) (a : Addr) : HO := .ext fun h => ∃ (oe : Obj) (vs : Array Value), h.get? a = some oe ∧ Zc cls d oe ∧ oe.data = .fields vs
theorem exK_ok {P : Program} {w : World} {H : Hp} {h : Heap} {a : Addr} {cls : Value} {d : Option Addr} {oe : Obj} {vs : Array Value} (e : h.get? a = some oe) (z : Zc cls d oe) (dd : oe.data = .fields vs) : ObjOk P w H h a (ExK cls d a) :=
  ⟨⟨oe, vs, e, z, dd⟩, ⟨oe, e⟩, fun _ _ ⟨o, v, q, r⟩ k => ⟨o, v, k o q, r⟩⟩
theorem Inv.held {X : Cx} {pins : List (Addr × Obj)} {σ : St} {H : Hp} {s : Shared} {a : Addr} {cls : Value} {d : Option Addr} {oe : Obj} {vs : Array Value} (I : Inv X pins σ H s) (na : H a = none) (he : s.heap.get? a = some oe) (hz : Zc cls d oe) (hd : oe.data = .fields vs) (n0 : X.s_0.heap.get? a = none) (nL : a ≠ X.env.locals)
    (np : ∀ p ∈ X.pn ++ pins, p.1 ≠ a) : Inv X pins σ (upd H a (ExK cls d a)) s := by
  refine ⟨I.ok, I.os, I.bare, ⟨I.base.keep, I.base.slot, fun b o e n hx => ?_, I.base.there, fun b xs e => ?_, fun b o u e => ?_, fun b ps e => ?_⟩, I.loc, I.cell, ?_, fun x c hc => ?_, fun p hp => ?_, fun b ob e => ?_, I.len⟩
  · rw [upd_ne (fun z => by rw [z, n0] at e; cases e)]
    exact I.base.free b o e n hx
  · have q := I.base.tups b xs e
    rw [upd_ne (ne_of_none q na)]; exact q
  · have q := I.base.frzs b o u e
    rw [upd_ne (ne_of_none q na)]; exact q
  · obtain ⟨more, q⟩ := I.base.tbls b ps e
    exact ⟨more, by rw [upd_ne (ne_of_none q na)]; exact q⟩
  · rw [upd_ne nL.symm]; exact I.free
  · rw [upd_ne (fun z => ?_)]
    · exact I.freeC x c hc
    · obtain ⟨v, o, q1, q2⟩ := I.cell x c hc
      rw [z, he] at q1
      cases q1
      rw [hd] at q2
      cases q2
  · obtain ⟨k1, k2, k3, k4, k5⟩ := I.pin p hp
    exact ⟨k1, by rw [upd_ne (np p hp)]; exact k2, k3, k4, k5⟩
  · by_cases c : b = a
    · subst c
      rw [upd_same] at e
      cases e
      exact exK_ok he hz hd
    · rw [upd_ne c] at e
      exact (I.hok b ob e).stay (fun _ _ _ q => q) (fun c q => by rw [upd_ne (ne_of_none q na)]; exact q) fun c xs q => by rw [upd_ne (ne_of_none q na)]; exact q
/-- what the clause wishes: as the library's wAs, but the exception stays in the heap behind the suite -/
def wKeep (K : PySem.W.Frag) (c : Value) (i : Nat) (ts : Addr → Value → Option Addr → TS) (Wout : WX) (D : Ends) : WX := fun cls d σ H =>
  ∃ b, PySem.W.exmOne K cls c = some b ∧ (b = true → ∀ a, H a = none → ts a cls d { nx := fun σ2 H2 => D.nx (σ2.set i none) (upd H2 a (ExK cls d a)), rt := D.rt, bk := fun σ2 H2 => D.bk (σ2.set i none) H2, ct := fun σ2 H2 => D.ct (σ2.set i none) H2 } (σ.set i (some (.ref a))) H) ∧
    (b = false → Wout cls d σ H)
section
variable {X : Cx} {x n : Str} {c : Value} {i : Nat} {body suite : List Stmt} {b₀ : Stmt} {np pos' pos : Pos} {tb : WX → TS} {ts : Addr → Value → Option Addr → TS} {Wout : WX}
theorem ps_try_keep (hx0 : X.ex = []) (hs : X.stack = X.env :: X.outer) (hf : X.env.frame = some X.env.locals) (hN : X.N.Nodup) (hi : X.N[i]? = some n) (hln : X.env.kindOf n = some .local) (hc : Names X x c) (tk : Takes X Wout)
    (hb : ∀ (W : WX) (pn : List (Addr × Obj)) (xe : Value → Shared → Prop), Takes (X.tr pn xe) W → PassesOwn (model X.prog X.w) X.A X.env xe → PSs (X.tr pn xe) body (tb W))
    (hsu : ∀ (a : Addr) (oe : Obj) (cls : Value) (d : Option Addr) (pn : List (Addr × Obj)), Zc cls d oe → (∃ vs, oe.data = .fields vs) → PSs (X.suite a ((a, oe) :: pn)) (b₀ :: suite) (ts a cls d)) :
    PS X (.Try body [.ExceptHandler (some (.Name x np)) (some n) (b₀ :: suite) pos'] [] [] pos) (fun D σ H => tb (wKeep X.K c i ts Wout D) D σ H) := by
  refine ⟨fun pins s σ H D I h => ?_⟩
  have okk := I.ok
  have frk : X.A.frames = some (X.env :: X.outer) := by rw [okk.frames, hs]
  have lok : Loc X.env.scope n := .inl hln
  refine wpAny_Try_except ?_
  refine wpAny_mono ((hb (wKeep X.K c i ts Wout D) (X.pn ++ pins) (fun e s₁ => wpAny (model X.prog X.w) X.A (noteFrame e X.env) (fun _ s₂ => wpAny (model X.prog X.w) X.A (setFlight e none) (fun _ s₃ =>
    wpAny (model X.prog X.w) X.A (handleBy e X.env [.ExceptHandler (some (.Name x np)) (some n) (b₀ :: suite) pos']) (SP X pins D) X.xe s₃) X.xe s₂) X.xe s₁) (fun u s' xxk => ?_) PassesOwn.looking).run [] s σ H D (I.toTry _) h) (fun f s1 spk => ?_) (fun e s1 he => he)
  · -- the catch
    obtain ⟨a, B, sIk, pinq, σ', H', cls, d, rfl, Jq, nbk, up, sky0, nak, os, agk, b, b1k, yesk, nok⟩ := xxk
    have J : Inv X pins σ' H' sIk := Jq.ofTry okk
    have skyk : Sky B (X.env :: X.outer) a (Zc cls d) X.env.locals s'.heap := by rw [← hs]; exact sky0
    show wpAny (model X.prog X.w) X.A (noteFrame (.ref a) X.env) _ _ _
    refine Sky.land Zc.steady frk hf skyk fun h3k flk upk => ?_
    have Jk : Inv X pins σ' H' { s' with heap := h3k } := J.landed nbk flk.1 (up.trans upk) os agk
    obtain ⟨oe3k, vs3k, hek, hzk, hdk⟩ := flk.there
    have nfk : ∀ {h : Heap} {o : Obj} {vs : Array Value}, h.FunFrames B (X.env :: X.outer) → h.get? a = some o → o.data = .fields vs → a ∉ frs (X.env :: X.outer) := fun {h o vs} ff e dd hmk => by
      obtain ⟨_, o', e', hnf⟩ := ff.mem hmk
      rw [e] at e'; cases e'
      exact hnf _ dd
    have nfr0 := nfk flk.2.2.1 hek hdk
    have nLk : a ≠ X.env.locals := fun z => nfr0 (List.mem_filterMap.mpr ⟨X.env, List.mem_cons_self, by rw [hf, z]⟩)
    have nFk : a ∉ X.fs := fun hmk => by
      obtain ⟨e, he, q⟩ := List.mem_filterMap.mp hmk
      exact nfr0 (List.mem_filterMap.mpr ⟨e, List.mem_cons_of_mem _ he, q⟩)
    have Sk := Jk.suite hek hdk nak nLk nFk
    refine wpAny_handleBy_cons (codeAny_handlers_test ?_) (by intro q; cases q)
    have LTk : PySem.W.Looks (model X.prog X.w) h3k (typeOf (.ref a)) cls := fun A Q E s k q => wpAny_typeOf_ref (k _ _ hek) (by rw [hzk.1]; exact q)
    have LMk := PySem.W.exm_one (M := model X.prog X.w) (Jk.kIn) LTk b1k
    have testk : ∀ {Q : Value → Shared → Prop} {E : Value → Shared → Prop}, Q c { s' with heap := h3k } → wpAny (model X.prog X.w) (X.A.mark (some (.ref a))) (eval (.Name x np) X.env) Q E { s' with heap := h3k } := fun {Q E} q => by
      obtain ⟨hgk, dbgk, hmk | ⟨hmk, hvk, nnk⟩⟩ := hc
      · exact ld_glob (X := X.suite a ((a, oe3k) :: (X.pn ++ pins))) Sk hgk hmk q dbgk
      · exact ld_blt (X := X.suite a ((a, oe3k) :: (X.pn ++ pins))) Sk hgk hmk hvk q nnk dbgk
    refine testk (LMk.here ?_)
    cases b with
    | true =>
      refine codeAny_handlers_suite_as ?_
      refine HandSPX.lands_againZ flk fun h4k fl4k up4k => ?_
      have J4k : Inv X pins σ' H' { s' with heap := h4k } := J.landed nbk fl4k.1 ((up.trans upk).trans up4k) os agk
      obtain ⟨oe4k, vs4k, he4k, hz4k, hd4k⟩ := fl4k.there
      have S4k := J4k.suite he4k hd4k nak nLk nFk
      refine store_ok (X := X.suite a ((a, oe4k) :: (X.pn ++ pins))) (v := .ref a) S4k hN hi lok rfl (fun s5k S5k => ?_) (.inr hln)
      refine wpAny_mono ((hsu a oe4k cls d (X.pn ++ pins) hz4k ⟨_, hd4k⟩).run [] s5k _ H' _ S5k (yesk rfl a nak)) (fun f s6k spk => ?_) (fun _ _ z => False.elim z)
      have n0 : X.s_0.heap.get? a = none := by
        cases e0 : X.s_0.heap.get? a with
        | none => rfl
        | some o0 =>
          have hex0 : a ∉ X.ex := fun z => by rw [show X.ex = [] from hx0] at z; cases z
          obtain ⟨o1, e1⟩ := J.base.there a o0 e0 hex0
          have e2 := nbk a o1 e1 (by rw [hs]; exact nfr0)
          rw [flk.2.1] at e2
          cases e2
      have endN : ∀ {σ6 : St} {H6 : Hp} {Q : Shared → Prop}, Inv (X.suite a ((a, oe4k) :: (X.pn ++ pins))) [] σ6 H6 s6k → (∀ s7k, Inv X pins (σ6.set i none) (upd H6 a (ExK cls d a)) s7k → Q s7k) →
          wpAny (model X.prog X.w) X.A (do bindName X.env n .none; unbindBehindTheSuite X.env n pos') (fun _ s7k => Q s7k) X.xe s6k := fun {σ6 H6 Q} S6k hq => gone_ok (X := X.suite a ((a, oe4k) :: (X.pn ++ pins))) (pins := []) S6k hN hi hln fun s7k S7 => hq s7k (by
        obtain ⟨p1, p2, p3, p4, p5⟩ := S7.pin (a, oe4k) (List.mem_append.mpr (.inl List.mem_cons_self))
        refine (S7.unsuite okk).held p2 p1 hz4k hd4k n0 p3 fun p hp z => ?_
        obtain ⟨k1, k2, k3, k4, k5⟩ := J.pin p hp
        rw [z] at k1 k3 k4
        have e2 := nbk a p.2 k1 (fun y => by
          rw [hs] at y
          exact nfr0 y)
        rw [flk.2.1] at e2
        cases e2)
      have end_ : ∀ {σ6 : St} {H6 : Hp} {Q : Shared → Prop}, Inv (X.suite a ((a, oe4k) :: (X.pn ++ pins))) [] σ6 H6 s6k → (∀ s7k, Inv X pins (σ6.set i none) H6 s7k → Q s7k) →
          wpAny (model X.prog X.w) X.A (do bindName X.env n .none; unbindBehindTheSuite X.env n pos') (fun _ s7k => Q s7k) X.xe s6k := fun {σ6 H6 Q} S6k hq => gone_ok (S6k.unsuite okk) hN hi hln hq
      cases f with
      | next =>
        obtain ⟨σ6, H6, S6k, q6k⟩ := spk
        exact endN S6k fun s7k J7k => ⟨_, _, J7k, q6k⟩
      | brk =>
        obtain ⟨σ6, H6, S6k, q6k⟩ := spk
        exact end_ S6k fun s7k J7k => ⟨_, _, J7k, q6k⟩
      | cont =>
        obtain ⟨σ6, H6, S6k, q6k⟩ := spk
        exact end_ S6k fun s7k J7k => ⟨_, _, J7k, q6k⟩
      | ret u =>
        obtain ⟨v6, σ6, H6, S6k, r6, q6k⟩ := spk
        exact end_ S6k fun s7k J7k => ⟨_, _, _, J7k, r6, q6k⟩
    | false =>
      show wpAny _ X.A (handleBy (.ref a) X.env []) _ _ _
      refine wpAny_handleBy_nil ?_
      obtain ⟨k1, k2, k3, oe, vs, T, oTk, tsk, he, hz, hd, h1, hr⟩ := id flk
      unfold PySem.passOn
      refine wpAny_bind (wpAny_field he hd h1 ?_)
      rw [if_neg (show ¬ ((Value.ref T == Value.none) = true) from by simp)]
      have fink : wpAny (model X.prog X.w) X.A (setFlight (.ref a) X.env.frame) (fun _ s4 => wpAny (model X.prog X.w) X.A (throw (.ref a) : Sem Flow) (SP X pins D) X.xe s4) X.xe { s' with heap := h3k } := by
        rw [hf]
        refine HandSPX.setFlight_upZ flk fun h4k hh4 up4k => wpAny_throw (tk _ _ ?_)
        exact ⟨a, B, sIk, pins, σ', H', cls, d, rfl, J, nbk, (up.trans upk).trans up4k, .inr (.inr (by rw [hs]; exact hh4)), nak, os, agk, nok rfl⟩
      first
        | exact wpAny_bind (wpAny_pure (wpAny_bind fink))
        | exact wpAny_bind fink
  · cases f with
    | next =>
      obtain ⟨σ', H', Jq, q⟩ := spk
      exact wpAny_execs_nil ⟨σ', H', Jq.ofTry okk, q⟩
    | brk =>
      obtain ⟨σ', H', Jq, q⟩ := spk
      exact ⟨σ', H', Jq.ofTry okk, q⟩
    | cont =>
      obtain ⟨σ', H', Jq, q⟩ := spk
      exact ⟨σ', H', Jq.ofTry okk, q⟩
    | ret u =>
      obtain ⟨v, σ', H', Jq, r, q⟩ := spk
      exact ⟨v, σ', H', Jq.ofTry okk, r, q⟩
end
end L2
namespace Gp
open PySem L2 Evl
/-- a def of the text that may raise -/
structure CalX (P : Program) (w : World) (K : PySem.W.Frag) (mg : Str → Option Value) (base : Heap) (k : Nat) (x : Str) (sp : Sp) : Prop where
  ex : ∃ (f : Addr) (fd : FuncData) (ps : List Str), FnOk P w K mg base (L2.CX P w) k f fd ps sp ∧ mg x = some (.ref f) ∧ PySem.W.keepIn K (.ref f) = true ∧ Binds K fd ps []
section
variable {P : Program} {w : World} {K : PySem.W.Frag} {mg : Str → Option Value} {base : Heap}
theorem CalX.mono {j k : Nat} {x : Str} {sp : Sp} (c : CalX P w K mg base j x sp) (h : j ≤ k) : CalX P w K mg base k x sp := by
  obtain ⟨f, fd, ps, F, r⟩ := c.ex
  exact ⟨f, fd, ps, F.mono h, r⟩
theorem CalX.imp {k : Nat} {x : Str} {sp sp' : Sp} (c : CalX P w K mg base k x sp) (h : ∀ vs H Q E, sp' vs H Q E → sp vs H Q E) : CalX P w K mg base k x sp' := by
  obtain ⟨f, fd, ps, F, r⟩ := c.ex
  exact ⟨f, fd, ps, F.imp h, r⟩
theorem DefC.calX {x : Str} {st : Stmt} {N ps : List Str} {k : Nat} {sp : Sp} (d : DefC K mg x st ps) (S : FnScope N ps (defScope st)) (len : ∀ vs H Q E, sp vs H Q E → vs.length = ps.length)
    (hbody : ∀ (f : Addr) (cdv : Value) (A : Around) (outer : List Env) (s : Shared) (H : Hp) (vs : List V) (Q : VK) (E : XK), Room k (A.deeper (PyProof.Rows.envOfC x (defScope st) s.heap.objs.size f cdv)) → sp vs H Q E →
      Takes (cxOf (L2.CX P w) P w K mg base N x (defScope st) f cdv A outer s H E) (fun cls d _ H' => E cls d H') →
      ∃ t, PSs (cxOf (L2.CX P w) P w K mg base N x (defScope st) f cdv A outer s H E) (defBody st) t ∧ t { nx := fun _ H' => Q .non H', rt := Q } (start N vs) H) : CalX P w K mg base (k + 1) x sp := by
  obtain ⟨f, fd, F, hm, hb⟩ := d.ex
  exact ⟨f, fd, ps, F.okX S len (fun cdv A outer s H vs Q E hr h => hbody f cdv A outer s H vs Q E hr h (takes_of rfl rfl rfl rfl)), hm, F.kp, hb⟩
end
section
variable {X : Cx} {k j : Nat} {x : Str} {sp : Sp} {p pos : Pos} {e : Expr} {es : List Expr} {t : TA} {W : WX}
theorem pe_cx (c : CalX X.prog X.w X.K X.mg X.base k x sp) (hr : Room j X.A) (hk : k ≤ j) (tk : Takes X W) (hg : Gl X x) (ha : PA X (e :: es) t) (hdb : (x == ("__debug__" : Str)) = false := by decide)
    (he : starEach (e :: es) X.env = (false, eval e X.env) :: starEach es X.env := by rfl) (hpl : (backTo pos (starEach es X.env)).any (·.1) = false := by rfl) : PE X (.Call (.Name x p) (e :: es) [] pos) (tCallS sp (WE W) t) := by
  obtain ⟨f, fd, ps, F, hm, kp, b⟩ := c.ex
  exact pe_callS F (hr.mono hk) hg hm kp b (fun σ => passAt tk σ) ha hdb he hpl
/-- .. where it raises nothing -/
theorem pe_cx0 (c : CalX X.prog X.w X.K X.mg X.base k x sp) (hr : Room j X.A) (hk : k ≤ j) (hg : Gl X x) (ha : PA X (e :: es) t) (hdb : (x == ("__debug__" : Str)) = false := by decide)
    (he : starEach (e :: es) X.env = (false, eval e X.env) :: starEach es X.env := by rfl) (hpl : (backTo pos (starEach es X.env)).any (·.1) = false := by rfl) : PE X (.Call (.Name x p) (e :: es) [] pos) (tCall sp [] E0 t) := by
  obtain ⟨f, fd, ps, F, hm, kp, b⟩ := c.ex
  exact pe_call F (hr.mono hk) hg hm kp b .nil passL ha hdb he hpl
end
/-- what is told of an own exception class: it is made with a text, raised, and asked about -/
structure ExcT (K : PySem.W.Frag) (mg : Str → Option Value) (x : Str) (C : Addr) : Prop where
  gC : mg x = some (.ref C)
  kC : PySem.W.keepIn K (.ref C) = true
  isx : PySem.W.subIn K (.ref C) (.type "BaseException") = some true
  ty : PySem.W.typeIn K (.ref C) = some (.type "type")
  hg : PySem.W.findIn K (.ref C) "__getattribute__" = some (some (.builtin "BaseException.__getattribute__"))
  hk : PySem.W.findIn K (.ref C) "__getattr__" = some none
  hd : PySem.W.hasDictIn K C = true
  ha : PySem.W.findIn K (.ref C) "__class__" = some (some (.builtin "object.__class__"))
  hm : PySem.W.mroIn K C (.type "object") = some true
  cl : (PySem.W.clsIn K C).isSome = true
/-- isinstance(e, c), e kept -/
def rIsK (K : PySem.W.Frag) : List V → Hp → VK → Prop := fun xs H Q => ∃ (a D : Addr) (d : Option Addr) (c : V) (cv : Value) (b : Bool), xs = [.ref a, c] ∧ H a = some (ExK (.ref D) d a) ∧ (d = none ∨ ∃ dx fs, d = some dx ∧ H dx = some (.xd fs)) ∧
  (∃ mg x, ExcT K mg x D) ∧ PySem.W.specialIn K (.builtin "object.__class__") "__get__" = some (some (.builtin "getset_descriptor.__get__")) ∧ PySem.W.takesIn K (.builtin "object.__class__") = some true ∧ (∀ u, RelV c u → u = cv) ∧ PySem.W.kitOne K (.ref D) cv = some b ∧ Q (.bl b) H
theorem call_isK {X : Cx} : CallR X (.builtin "isinstance") (rIsK X.K) := by
  intro pins s σ H xs us Q I r h
  obtain ⟨a, D, d, c, cv, b, rfl, hH, hdx, ⟨_, _, C⟩, hn, ht, hcv, e, q⟩ := h
  cases r with
  | cons rx rr =>
    cases rr with
    | cons rt rr =>
      cases rr
      cases rx
      have ec := hcv _ rt
      subst ec
      obtain ⟨⟨oe, vs, hget, hz, hv⟩, _, _⟩ := I.hok a _ hH
      have J : ∃ od, PySem.W.InstAt s.heap a oe D od := by
        obtain ⟨oc, od, oda, osl⟩ := oe
        obtain ⟨h1, h2⟩ := hz
        dsimp only at h1 h2 hv
        subst h1 h2 hv
        rcases hdx with rfl | ⟨dx, fs, rfl, hx⟩
        · exact ⟨none, hget, rfl, rfl, trivial⟩
        · obtain ⟨mA, ⟨o, _, _, ho, _⟩, _⟩ := I.hok dx _ hx
          exact ⟨some o, hget, rfl, rfl, ho⟩
      obtain ⟨od, J⟩ := J
      exact PySem.W.kia_one (PySem.W.kitx_exc (od := od) C.cl C.hg C.hk C.isx C.ha hn ht C.hm) I.kIn J e (fun z => nomatch z) fun tk => ⟨.bl b, H, I.kept (t' := tk) fun _ _ z => z, rfl, q⟩
end Gp
namespace L2
open PyProof.Rows PySem.Spec PySem
def eqb (k : Bool) (v : Value) : Bool := match v with
  | .bool n => n == k
  | _ => false
theorem vals_bl : ∀ {bs : List Bool} {us : List Value}, Vals (bs.map V.bl) us → us = bs.map Value.bool
  | [], us, r => by cases r; rfl
  | b :: bs, us, r => by
    cases r with
    | cons h t =>
      have e := vals_bl t
      subst e
      cases h
      rfl
def rCntB (K : PySem.W.Frag) : V → List V → Hp → VK → Prop := fun x xs H Q => ∃ (p : Addr) (bs : List Bool) (k : Bool), x = .ref p ∧ xs = [.bl k] ∧ SqL K H p (bs.map V.bl) ∧ Q (.int (bs.count k : Nat)) H
theorem mt_lcountB {X : Cx} : MtR X "list.count" (rCntB X.K) := by
  intro pins s σ H x xs v us Q I rx rxs h
  obtain ⟨p, bs, k, rfl, rfl, hs, q⟩ := h
  cases rx
  obtain ⟨u, rfl, ru⟩ := rxs.one
  cases ru
  obtain ⟨its, rv, ⟨⟨cls, dd, data, sl⟩, n, ho, hc, hdn, hd⟩, hlen⟩ := I.list hs
  simp only at hc hd
  subst hc hd
  have ei := vals_bl rv
  subst ei
  refine call_meets PySem.F.slot_list_count ⟨_, ho, rfl⟩ PySem.F.entry_list_count (PySem.F.args_list_count_2 _ _) (SeqAt.list_countAt p (bs.map Value.bool).toArray n dd sl (.bool k) (eqb k)) ⟨ho, fun y hy => ?_, ?_⟩
  · have hy' : y ∈ bs.map Value.bool := by simpa using hy
    obtain ⟨b, _, rfl⟩ := List.mem_map.mp hy'
    exact SeqAt.EqAt.bool_bool b k
  · have ec : (bs.map Value.bool).toArray.toList.countP (eqb k) = bs.count k := by
      have key : ∀ l : List Bool, (l.map Value.bool).countP (eqb k) = l.count k := by
        intro l
        induction l with
        | nil => rfl
        | cons b r ih =>
          rw [List.map_cons, List.countP_cons, List.count_cons, ih] <;> rfl
      simpa using key bs
    refine ⟨.int (bs.count k : Nat), H, I.tok _, ⟨s.toks, ?_⟩, q⟩
    show Value.int (((bs.map Value.bool).toArray.toList.countP (eqb k) : Nat) : Int) s.toks = Value.int ((bs.count k : Nat) : Int) s.toks
    rw [ec]
/-- xs[::k], k 1 or -1 -/
def tStepL (K : PySem.W.Frag) (te ts : TE) : TE := fun σ H Q => te σ H fun x H1 => tPart ts σ H1 fun o H2 => ∃ (a : Addr) (xs : List V) (k : Int), x = .ref a ∧ o = some k ∧ (k = 1 ∨ k = -1) ∧ SqL K H2 a xs ∧ ∀ p, H2 p = none → Q (.ref p) (upd H2 p (.lst (if k = 1 then xs else xs.reverse)))
theorem pe_stepL {X : Cx} {e es : Expr} {te ts : TE} {p3 pos : Pos} (he : PE X e te) (hs : PE X es ts) : PE X (.Subscript e (.Slice none none (some es) p3) pos) (tStepL X.K te ts) := by
  refine ⟨fun pins s σ H Q I h => ?_⟩
  refine Subscript_ (thn (he.run pins s σ H _ I h) fun v s1 ⟨x, H1, I1, r1, q1⟩ => ?_)
  refine wpAny_Slice (thn (po_none.run pins s1 σ H1 (fun o H2 => o = none ∧ H2 = H1) I1 ⟨rfl, rfl⟩) fun vl s2 ⟨l, H2, I2, pl, el, e2⟩ => ?_)
  subst el e2
  refine thn (po_none.run pins s2 σ H2 (fun o H3 => o = none ∧ H3 = H2) I2 ⟨rfl, rfl⟩) fun vu s3 ⟨u, H3, I3, pu, eu, e3⟩ => ?_
  subst eu e3
  refine thn ((po_some hs).run pins s3 σ H3 _ I3 q1) fun vs s4 ⟨o, H4, I4, ps, a, xs, k, ex, eo, hk, hx, q⟩ => ?_
  subst ex eo
  cases r1
  have I5 : Inv X pins σ H4 { s4 with heap := s4.heap.push { cls := .type "slice", data := .fields #[vl, vu, vs] } } := I4.kept (t' := s4.toks) fun b ob q => Heap.get?_push_of_some _ q
  obtain ⟨its, r, ht, hz⟩ := I5.list hx
  have hlen := r.length
  show wpAny (model X.prog X.w) X.A (subscriptTail e (.Slice none none (some es) p3) (.ref a) (.ref s4.heap.objs.size)) (EP X pins σ Q) X.xe { s4 with heap := s4.heap.push { cls := .type "slice", data := .fields #[vl, vu, vs] } }
  refine tail_any (ops := [.ref a, .ref s4.heap.objs.size]) ht.isList.typeIs (PySem.slot_list_getitem.lookup) ?_ (by with_unfolding_all rfl)
  rcases hk with rfl | rfl
  · refine wpAny_getItem_list_slice ht.isList (Heap.IsSliceOf.new _ vl vu vs) pl pu ps (by decide) ?_ (by rw [List.size_toArray]; omega)
    have pk : slicePick its.toArray none none (some 1) = its.toArray := by
      rw [show slicePick its.toArray none none (some 1) = slicePick its.toArray none none none from rfl, PySem.W.kmk_pick_nat its.toArray (a := 0) (b := its.toArray.size) (by first | rfl | simp [sliceBounds])]
      simp
    rw [pk]
    refine ⟨.ref _, _, I5.laid (t' := s4.toks) (o := .lst xs) (fun b ob q => Heap.get?_push_of_some _ q) (Nat.le_refl _) ?_, rfl, q _ (I5.hok.fresh (Nat.le_refl _))⟩
    exact ⟨hz, _, 0, r, Heap.get?_push_size _ rfl⟩
  · refine wpAny_getItem_list_slice ht.isList (Heap.IsSliceOf.new _ vl vu vs) pl pu ps (by decide) ?_ (by rw [List.size_toArray]; omega)
    rw [PySem.W.krv_pick]
    refine ⟨.ref _, _, I5.laid (t' := s4.toks) (o := .lst xs.reverse) (fun b ob q => Heap.get?_push_of_some _ q) (Nat.le_refl _) ?_, rfl, q _ (I5.hok.fresh (Nat.le_refl _))⟩
    exact ⟨by rw [List.length_reverse]; exact hz, _, 0, r.reverse, Heap.get?_push_size _ rfl⟩
end L2
namespace Gp
open PySem L2 Evl
def tRaise (W : WX) (C : Addr) : TS := fun _ σ H => W (.ref C) none σ H
def tTryK (K : PySem.W.Frag) (c : Value) (i : Nat) (tb : WX → TS) (ts : Addr → Value → Option Addr → TS) : TS := fun D σ H => tb (wKeep K c i ts (fun _ _ _ _ => False) D) D σ H
end Gp
/-! ### own exceptions with an __init__ that calls the base's by its name, and one field -/
namespace Gp
open PySem L2 Evl PyProof.Rows
theorem pe_ginit {X : Cx} {x : Str} {CG : Addr} {mc : Value} {e : Expr} {es : List Expr} {ta : TA} {p1 p2 pos : Pos} {pl : Sem Bool} (hg : Gl X x) (hm : X.mg x = some (.ref CG)) (r : ClX.CRead X.K CG mc)
    (v : PySem.W.findCls X.K (.ref CG) mc "__init__" = some (.val (.builtin "ValueError.__init__"))) (ha : PA X (e :: es) ta) (hdb : (x == ("__debug__" : Str)) = false := by decide)
    (hc : eval (.Call (.Attribute (.Name x p1) "__init__" p2) (e :: es) [] pos) X.env = (do
      let ov ← eval (.Name x p1) X.env
      standAt p2.atName
      let (f, first) ← holding [ov] (getMethod ov "__init__" pl)
      callWith pos f first (backTo pos (starEach (e :: es) X.env)) (backToKw pos (keywordEach [] X.env))) := by rfl)
    (he : starEach (e :: es) X.env = (false, eval e X.env) :: starEach es X.env := by rfl) (hpl : (backTo pos (starEach es X.env)).any (·.1) = false := by rfl) :
    PE X (.Call (.Attribute (.Name x p1) "__init__" p2) (e :: es) [] pos) (tVeI X.K ta) := by
  refine ⟨fun pins s σ H Q I h => ?_⟩
  refine PySem.W.methodCall_KW (ld_glob I hg hm ?_ hdb) hc
  refine PySem.W.method_cls I.kIn r.ga (PySem.W.cls_value I.kIn r.rd v (by decide +kernel) ?_)
  show wpAny _ _ (callWith pos (Value.builtin "ValueError.__init__") [] (backTo pos (starEach (e :: es) X.env)) []) _ _ _
  refine PyProof.Rows.callWith_method1 (thn (ha.run pos pins _ σ H _ (I.tok _) h) fun us s1 ⟨vs, H1, I1, r1, a, C, ws, ev, hl, T, ea, q⟩ => ?_) he hpl
  subst ev
  cases r1 with
  | @cons _ u0 _ ur ra rw' =>
    obtain rfl : u0 = Value.ref a := ra
    have hlen : ur.length ≤ sizeLine := by
      rw [← Paired.length rw', sizeLine_eq]
      omega
    exact oinit_ok T I1 ea hlen fun s' J => ⟨.non, H1, J, rfl, q⟩
/-- e.f, e kept -/
def tAtK (K : PySem.W.Frag) (f : Str) (te : TE) : TE := fun σ H Q => te σ H fun x H1 => ∃ (a D dd : Addr) (fs : List (Str × V)) (v : V), x = .ref a ∧ H1 a = some (ExK (.ref D) (some dd) a) ∧ H1 dd = some (.xd fs) ∧ XfC K D ∧ PySem.W.findIn K (.ref D) f = some none ∧ fs.lookup f = some v ∧ Q v H1
theorem pe_atK {X : Cx} {e : Expr} {te : TE} {pos : Pos} {n : Str} (he : PE X e te) (hb : attributeBase e n X.env (eval e X.env) = eval e X.env := by rfl) : PE X (.Attribute e n pos) (tAtK X.K n te) := by
  refine ⟨fun pins s σ H Q I h => ?_⟩
  refine attr_of hb (thn (he.run pins s σ H _ I h) fun u s1 hh => ?_)
  obtain ⟨x, H1, I1, rx, a, D, dd, fs, v, ex, eA, ed, T, hno, l, q⟩ := hh
  subst ex
  obtain rfl : u = Value.ref a := rx
  obtain ⟨⟨oe, vs, hget, hz, hd⟩, _, _⟩ := I1.hok a _ eA
  have hx : ObjOk X.prog X.w H1 s1.heap dd (.xd fs) := I1.hok dd _ ed
  obtain ⟨mA, hns, hr⟩ := hx
  obtain ⟨od, ho, hl⟩ := lookIn_ns hns
  obtain ⟨u, hu, ru⟩ := RelO.some_of (v := v) (o := mA n) (by rw [← l]; exact hr n)
  have J : PySem.W.InstAt s1.heap a oe D (some od) := ⟨hget, hz.1, by unfold PySem.W.notCls; rw [hd] <;> rfl, by rw [hz.2]; exact ho⟩
  exact HandSPX.exc_get I1.kIn J T.ga T.gg T.exC (PySem.W.findObj_own T.hdC hno rfl (by rw [hl, hu])) (handed_of ru) ⟨v, H1, I1.tok _, ru, q⟩
/-- what is told of such a class, its __init__ at fI, with the field f -/
structure IniT (K : PySem.W.Frag) (mg : Str → Option Value) (base : Heap) (P : Program) (w : World) (k : Nat) (x : Str) (C : Addr) (sp : Sp) : Prop where
  gC : mg x = some (.ref C)
  ox : OexC K C
  ex : ∃ (fI : Addr) (fd : FuncData), PySem.W.findIn K (.ref C) "__init__" = some (some (.ref fI)) ∧ PySem.W.typeIn K (.ref fI) = some (.type "function") ∧ FnOk P w K mg base CX0 k fI fd ["self", "at"] sp ∧ Binds K fd ["self", "at"] []
/-- what the __init__ does: self.at = v -/
def sp_init (K : PySem.W.Frag) : Sp := fun vs H Q _ => ∃ a C v, vs = [.ref a, v] ∧ OexC K C ∧ PySem.W.findIn K (.ref C) "at" = some none ∧ H a = some (exo a C none) ∧ ∀ H1 dx, Evl.Ex H H1 → H1 dx = none → dx ≠ a → Q .non (upd (upd H1 dx (exd dx [("at", v)])) a (exo a C (some dx)))
def tRaiseAt (K : PySem.W.Frag) (W : WX) (C : Addr) (ta : TA) : TS := fun _ σ H => tMkO C (sp_init K) [] ta σ H fun cls d H' => W cls d σ H'
theorem ps_raiseAt {X : Cx} {W : WX} {x : Str} {C : Addr} {k j : Nat} {e : Expr} {ta : TA} {p pos pos2 : Pos} (T : IniT X.K X.mg X.base X.prog X.w k x C (sp_init X.K)) (hcalm : X.calm = true) (tk : Takes X W) (hr : Room j X.A) (hk : k + 1 ≤ j) (hg : Gl X x) (ha : PA X [e] ta)
    (hdb : (x == ("__debug__" : Str)) = false := by decide) (he : starEach [e] X.env = (false, eval e X.env) :: starEach [] X.env := by rfl) (hpl : (backTo pos (starEach [] X.env)).any (·.1) = false := by rfl) :
    PS X (.Raise (some (.Call (.Name x p) [e] [] pos)) none pos2) (tRaiseAt X.K W C ta) := by
  obtain ⟨fI, fd, iC, tI, F, b⟩ := T.ex
  exact ps_raise hcalm tk (pmk_oex T.ox iC tI F (hr.mono hk) b .nil pass0 hg T.gC ha hdb he hpl)
/-- it raises, with a field -/
def RseA (C : Addr) (v : V) (H : Hp) (E : XK) : Prop := ∀ H1 dx, Evl.Ex H H1 → H1 dx = none → E (.ref C) (some dx) (upd H1 dx (.xd [("at", v)]))
theorem RseA.go {C : Addr} {v : V} {H H' : Hp} {E : XK} (h : RseA C v H E) (e : Evl.Ex H H') : RseA C v H' E := fun H2 dx e2 hx => h H2 dx (e.trans e2) hx
section
variable {K : PySem.W.Frag} {σ : L2.St} {H : Hp} {te : TE} {v : V}
theorem s_raiseAt {W : WX} {C : Addr} {D : Ends} (h : Ev te σ H v) (ox : OexC K C) (hno : PySem.W.findIn K (.ref C) "at" = some none) (k : RseA C v H (WE W σ)) : tRaiseAt K W C (tCons te tNil) D σ H :=
  h H (Evl.Ex.refl _) _ fun H1 e1 => ⟨by show 1 ≤ 1000; decide, fun a hn => ⟨a, C, v, rfl, ox, hno, upd_same, fun H3 dx e3 hd hne => by
    have hd0 : H1 dx = none := by
      cases z : H1 dx with
      | none => rfl
      | some o => rw [e3 dx o (by rw [upd_ne hne]; exact z)] at hd; cases hd
    refine ⟨rfl, dx, [("at", v)], upd_same, by rw [upd_ne hne]; exact upd_same, hd0, ?_⟩
    have e2 : upd (L2.del (upd (upd H3 dx (exd dx [("at", v)])) a (exo a C (some dx))) a) dx (.xd [("at", v)]) = upd (L2.del H3 a) dx (.xd [("at", v)]) := by
      funext b
      by_cases c : b = dx
      · subst c; rw [upd_same, upd_same]
      · rw [upd_ne c, upd_ne c]
        by_cases c2 : b = a
        · subst c2; rw [L2.del_same, L2.del_same]
        · rw [L2.del_ne c2, L2.del_ne c2, upd_ne c2, upd_ne c]
    rw [e2]
    refine k _ dx (fun b o z => ?_) (by rw [L2.del_ne hne]; exact hd)
    have z1 := e1 b o z
    have nb : b ≠ a := fun c => by rw [c, hn] at z1; cases z1
    rw [L2.del_ne nb]
    exact e3 b o (by rw [upd_ne nb]; exact z1)⟩⟩
theorem ev_atK {a D dd : Addr} {fs : List (Str × V)} {f : Str} (h : Ev te σ H (.ref a)) (hH : H a = some (ExK (.ref D) (some dd) a)) (hd : H dd = some (.xd fs)) (T : XfC K D) (hno : PySem.W.findIn K (.ref D) f = some none) (l : fs.lookup f = some v) : Ev (tAtK K f te) σ H v := fun H1 e Q q =>
  h H1 e _ fun H2 e2 => ⟨a, D, dd, fs, v, rfl, (e.trans e2) _ _ hH, (e.trans e2) _ _ hd, T, hno, l, q H2 e2⟩
end
end Gp
namespace Gp
open PySem L2 Evl
def clsB (s : Stmt) : List Stmt := match s with
  | .ClassDef _ _ _ b .. => b
  | _ => []
theorem q_veI {K : PySem.W.Frag} {σ : L2.St} {H : Hp} {D : Ends} {tz : TS} {ta : TA} {vs : List V} (h : EvA ta σ H vs) (k : ∀ H1, Evl.Ex H H1 → ∃ (a C : Addr) (ws : List V), vs = .ref a :: ws ∧ ws.length ≤ 1000 ∧ OexC K C ∧ H1 a = some (exo a C none) ∧ tz D σ H1) : tSeq (tDrop (tVeI K ta)) tz D σ H := h H (Evl.Ex.refl _) _ k
theorem pure_init {K : PySem.W.Frag} (m : Str) (vs : List V) (H : Hp) (Q : VK) (E : XK) (h : sp_init K vs H Q E) : (tSeq (tDrop (tVeI K (tCons (tVar 0) (tCons (tC (.str m)) tNil)))) (tOst K "at" (tVar 0) (tVar 1))) { nx := fun _ H' => Q .non H', rt := Q } (start ["self", "at"] vs) H := by
  obtain ⟨a, C, v, rfl, ox, hno, hH, q⟩ := h
  exact q_veI (σ := [some (.ref a), some v]) (ea_cons (ev_var rfl) (ea_cons ev_c ea_nil)) fun H1 e1 => ⟨a, C, [.str m], rfl, (by decide : 1 ≤ 1000), ox, e1 _ _ hH, by
    refine (ev_var rfl : Ev (tVar 1) [some (.ref a), some v] H1 v) H1 (Evl.Ex.refl _) _ fun H2 e2 => ?_
    refine (ev_var rfl : Ev (tVar 0) [some (.ref a), some v] H2 (.ref a)) H2 (Evl.Ex.refl _) _ fun H3 e3 => ?_
    have e := (e1.trans e2).trans e3
    exact ⟨a, C, rfl, ox, hno, .inl ⟨e _ _ hH, fun dx hd hne => q H3 dx e hd hne⟩⟩⟩
end Gp
namespace L2
open PyProof.Rows PySem.Spec PySem
/-- list + list, lists that may stand in the program's own part -/
def rCatS (K : PySem.W.Frag) : R2 := fun x y H Q => ∃ l b xs zs, x = .ref l ∧ y = .ref b ∧ SqL K H l xs ∧ SqL K H b zs ∧ xs.length + zs.length ≤ sizeLine ∧ ∀ p, H p = none → Q (.ref p) (upd H p (.lst (xs ++ zs)))
theorem op_catS {X : Cx} : OpR X (binaryOp .Add) (rCatS X.K) := by
  intro pins s σ H x y v u Q I rx ry h
  obtain ⟨l, b, xs, zs, rfl, rfl, hH, hB, hz, q⟩ := h
  cases rx
  cases ry
  obtain ⟨its, r, ⟨⟨cls, dd, data, sl⟩, n, ho, hc, hdn, hd⟩, hlen⟩ := I.list hH
  obtain ⟨its2, r2, ⟨⟨cls2, dd2, data2, sl2⟩, n2, ho2, hc2, hdn2, hd2⟩, hlen2⟩ := I.list hB
  simp only at hc hd hc2 hd2
  subst hc hd hc2 hd2
  have e1 := r.length
  have e2 := r2.length
  refine concat_meets ⟨_, ho, rfl⟩ ⟨_, ho2, rfl⟩ noFill_list_add seq_list_add PySem.F.slot_list_add PySem.F.entry_list_add (PySem.F.args_list_add_2 _ _) (list_addW l b its.toArray its2.toArray n n2 dd dd2 sl sl2 (by simp; omega)) ⟨ho, ho2, ?_⟩
  have ea : its.toArray ++ its2.toArray = (its ++ its2).toArray := by simp
  rw [ea]
  exact ⟨.ref _, _, I.lnew (t' := s.toks) (r.append r2) (by rw [List.length_append]; omega), rfl, q _ I.fresh⟩
end L2
namespace Gp
open PySem L2 Evl
/-! ### values of which only something is told -/
def EvP (te : TE) (σ : L2.St) (H : Hp) (P : V → Hp → Prop) : Prop := ∀ H1, Evl.Ex H H1 → ∀ Q : VK, (∀ x H2, Evl.Ex H1 H2 → P x H2 → Q x H2) → te σ H1 Q
def Lasts (P : V → Hp → Prop) : Prop := ∀ x H H', Evl.Ex H H' → P x H → P x H'
def HoldP : List (V → Hp → Prop) → List V → Hp → Prop
  | [], [], _ => True
  | P :: Ps, x :: xs, H => P x H ∧ HoldP Ps xs H
  | _, _, _ => False
def EvAP (ta : TA) (σ : L2.St) (H : Hp) (Ps : List (V → Hp → Prop)) : Prop := ∀ H1, Evl.Ex H H1 → ∀ Q : List V → Hp → Prop, (∀ vs H2, Evl.Ex H1 H2 → HoldP Ps vs H2 → Q vs H2) → ta σ H1 Q
section
variable {K : PySem.W.Frag} {σ : L2.St} {H : Hp} {te tb : TE} {ta tr : TA}
theorem ep_val {v : V} {P : V → Hp → Prop} (hP : Lasts P) (h : Ev te σ H v) (hv : P v H) : EvP te σ H P := fun H1 e Q q => h H1 e _ fun H2 e2 => q v H2 e2 (hP v H H2 (e.trans e2) hv)
theorem ep_lst {xs : List V} {P : V → Hp → Prop} (h : EvL te σ H xs) (hv : ∀ p H', Evl.Ex H H' → H' p = some (.lst xs) → P (.ref p) H') : EvP te σ H P := fun H1 e Q q => h H1 e _ fun p H2 _ e2 h2 => q _ H2 e2 (hv p H2 (e.trans e2) h2)
theorem ep_tup {xs : List V} {P : V → Hp → Prop} (h : EvU te σ H xs) (hv : ∀ p H', Evl.Ex H H' → H' p = some (.tup xs) → P (.ref p) H') : EvP te σ H P := fun H1 e Q q => h H1 e _ fun p H2 _ e2 h2 => q _ H2 e2 (hv p H2 (e.trans e2) h2)
theorem ep_dict {P : V → Hp → Prop} (hv : ∀ p H', Evl.Ex H H' → H' p = some (.dK []) → P (.ref p) H') : EvP tDNewK σ H P := fun H1 e Q q => fun p hp => q _ _ (Evl.Ex.new hp) (hv p _ (e.trans (Evl.Ex.new hp)) upd_same)
theorem holdP_mono {Ps : List (V → Hp → Prop)} (h : ∀ P ∈ Ps, Lasts P) : ∀ {vs : List V} {H H' : Hp}, Evl.Ex H H' → HoldP Ps vs H → HoldP Ps vs H' := by
  induction Ps with
  | nil => intro vs H H' _ k; cases vs <;> exact k
  | cons P r ih =>
    intro vs H H' e k
    cases vs with
    | nil => exact k
    | cons x xs => exact ⟨h P List.mem_cons_self x H H' e k.1, ih (fun P hP => h P (List.mem_cons_of_mem _ hP)) e k.2⟩
theorem ep_nil : EvAP tNil σ H [] := fun H1 _ Q q => q [] H1 (Evl.Ex.refl _) trivial
theorem ep_cons {P : V → Hp → Prop} {Ps : List (V → Hp → Prop)} (hP : Lasts P) (h : EvP te σ H P) (hr : EvAP tr σ H Ps) : EvAP (tCons te tr) σ H (P :: Ps) := fun H1 e Q q =>
  h H1 e _ fun x H2 e2 hx => hr H2 (e.trans e2) _ fun xs H3 e3 hxs => q (x :: xs) H3 (e2.trans e3) ⟨hP x H2 H3 e3 hx, hxs⟩
theorem holdP_at : ∀ {Ps : List (V → Hp → Prop)} {vs : List V} {H : Hp} {j : Nat} {P : V → Hp → Prop}, HoldP Ps vs H → Ps[j]? = some P → ∃ x, vs[j]? = some x ∧ P x H
  | [], _, _, _, _, _, h => by simp at h
  | P :: Ps, [], _, _, _, k, _ => k.elim
  | P :: Ps, x :: xs, H, 0, P', k, h => by
    cases h
    exact ⟨x, rfl, k.1⟩
  | P :: Ps, x :: xs, H, j + 1, P', k, h => by
    have h2 : Ps[j]? = some P' := by simpa using h
    obtain ⟨y, h3, h4⟩ := holdP_at k.2 h2
    exact ⟨y, by simpa using h3, h4⟩
theorem holdP_len : ∀ {Ps : List (V → Hp → Prop)} {vs : List V} {H : Hp}, HoldP Ps vs H → vs.length = Ps.length
  | [], [], _, _ => rfl
  | [], x :: xs, _, k => k.elim
  | P :: Ps, [], _, k => k.elim
  | P :: Ps, x :: xs, H, k => by rw [List.length_cons, List.length_cons, holdP_len k.2]
/-- [.., .., ..][i] -/
theorem ep_ix {P : V → Hp → Prop} {Ps : List (V → Hp → Prop)} {i : Int} {j : Nat} (hs : ∀ P ∈ Ps, Lasts P) (h : EvAP ta σ H Ps) (hl : Ps.length ≤ 1000) (hb : ∀ H1, Evl.Ex H H1 → Ev tb σ H1 (.int i)) (hi : i = (j : Int)) (hp : Ps[j]? = some P) : EvP (tOp (rIxL K) (tLst ta) tb) σ H P := fun H1 e Q q =>
  h H1 e _ fun vs H2 e2 hv => ⟨sz_of (by rw [holdP_len hv]; omega), fun p hp2 => by
    have e3 : Evl.Ex H2 (upd H2 p (.lst vs)) := Evl.Ex.new hp2
    refine hb _ ((e.trans e2).trans e3) _ (Evl.Ex.refl _) _ fun H4 e4 => ?_
    have hv4 := holdP_mono hs (e3.trans e4) hv
    obtain ⟨x, hx, px⟩ := holdP_at hv4 hp
    exact ⟨p, vs, i, x, rfl, rfl, sq_of (e4 _ _ upd_same), by rw [hi]; exact atI_nat hx, q x H4 ((e2.trans e3).trans e4) px⟩⟩
theorem q_asgP {D : Ends} {tz : TS} {i : Nat} {P : V → Hp → Prop} (h : EvP te σ H P) (k : ∀ x H1, Evl.Ex H H1 → P x H1 → tz D (σ.set i (some x)) H1) : tSeq (tAsg te (gName i)) tz D σ H := h H (Evl.Ex.refl _) _ k
/-- what is no player, what are no places -/
def NoPl (K : PySem.W.Frag) : V → Hp → Prop := fun x H => ∃ n, Knd K H x n ∧ isPl x 2 = false
theorem NoPl.lasts : Lasts (NoPl K) := fun x H H' e ⟨n, k, p⟩ => ⟨n, k.mono e, p⟩
def NoLs (K : PySem.W.Frag) (m : Int) : V → Hp → Prop := fun x H => ListP K H x (fun xs => areP xs m) false
theorem NoLs.lasts {m : Int} : Lasts (NoLs K m) := fun x H H' e h => h.mono e
end
end Gp
/-! ### more rules about values of which only something is told -/
namespace Gp
open PySem L2 Evl
section
variable {K : PySem.W.Frag} {σ : L2.St} {H : Hp}
theorem q_lst2 {D : Ends} {tz : TS} {ta tb : TE} {i : Nat} {P : V → Hp → Prop} (hP : Lasts P) (ha : EvP ta σ H P) {xs : List V} (hb : EvL tb σ H xs) (k : ∀ x l h H1, Evl.Ex H H1 → P x H1 → H1 l = some (.lst xs) → H1 h = some (.lst [x, .ref l]) → tz D (σ.set i (some (.ref h))) H1) : tSeq (tAsg (tLst (tCons ta (tCons tb tNil))) (gName i)) tz D σ H :=
  ha H (Evl.Ex.refl _) _ fun x H1 e1 px => hb H1 e1 _ fun l H2 hl e2 h2 => ⟨by show 2 ≤ sizeLine; decide, fun h hh => by
    have e3 := Evl.Ex.new (o := HO.lst [x, .ref l]) hh
    exact k x l h _ ((e1.trans e2).trans e3) (hP x _ _ (e2.trans e3) px) (e3 _ _ h2) upd_same⟩
theorem el_step {te ts : TE} {a : Addr} {xs : List V} {k : Int} (h : Ev te σ H (.ref a)) (hs : SqL K H a xs) (hk : ∀ H1, Evl.Ex H H1 → Ev ts σ H1 (.int k)) (h2 : k = 1 ∨ k = -1) : EvL (tStepL K te ts) σ H (if k = 1 then xs else xs.reverse) := fun H1 e Q q =>
  h H1 e _ fun H2 e2 => hk H2 (e.trans e2) H2 (Evl.Ex.refl _) _ fun H3 e3 => ⟨k, rfl, a, xs, k, rfl, rfl, h2, ex_l ((e.trans e2).trans e3) hs, fun p hp => q p _ (fresh_back (e2.trans e3) hp) ((e2.trans e3).trans (Evl.Ex.new hp)) upd_same⟩
theorem ep_lst1 {te : TE} {P R : V → Hp → Prop} (hP : Lasts P) (h : EvP te σ H P) (hr : ∀ p x H', H' p = some (.lst [x]) → P x H' → R (.ref p) H') : EvP (tLst (tCons te tNil)) σ H R := fun H1 e Q q =>
  h H1 e _ fun x H2 e2 px => ⟨by show 1 ≤ sizeLine; decide, fun p hp => q _ _ (e2.trans (Evl.Ex.new hp)) (hr p x _ upd_same (hP x _ _ (Evl.Ex.new hp) px))⟩
theorem not_list {x : V} {n : String} {m : Int} (k : Knd K H x n) (h : n ≠ "list") : NoLs K m x H := ⟨n, k, .inl ⟨h, rfl⟩⟩
theorem bad_list {p : Addr} {xs : List V} {m : Int} (h : H p = some (.lst xs)) (hl : xs.length ≤ 4000) (hk : ∀ y ∈ xs, ∃ n, Knd K H y n) (hf : areP xs m = false) : NoLs K m (.ref p) H := ⟨"list", knd_list (sq_of h), .inr ⟨p, xs, rfl, sq_of h, hl, hk, hf.symm⟩⟩
theorem knd_base {x : V} {n : String} (h : TyOf K H x (.type n)) (hm : n ∈ Kinds) : Knd K H x n := ⟨.base h, hm⟩
theorem nopls : EvAP (tCons (tUn rNeg (tC (.int 1))) (tCons (tC (.int 2)) (tCons (tC .non) (tCons (tC (.bl true)) (tCons (tC (.str "0")) (tCons (tLst (tCons (tC (.int 0)) tNil)) (tCons (tOp rPow (tC (.int 10)) (tC (.int 20))) tNil))))))) σ H (List.replicate 7 (NoPl K)) :=
  ep_cons NoPl.lasts (ep_val NoPl.lasts (ev_un ev_c ru_neg) ⟨"int", knd_int, rfl⟩) (ep_cons NoPl.lasts (ep_val NoPl.lasts ev_c ⟨"int", knd_int, rfl⟩) (ep_cons NoPl.lasts (ep_val NoPl.lasts ev_c ⟨"NoneType", knd_base .non (by decide), rfl⟩) (ep_cons NoPl.lasts (ep_val NoPl.lasts ev_c ⟨"bool", knd_base (.bl _) (by decide), rfl⟩)
    (ep_cons NoPl.lasts (ep_val NoPl.lasts ev_c ⟨"str", knd_base (.str _) (by decide), rfl⟩) (ep_cons NoPl.lasts (ep_lst (el_lst (ea_cons ev_c ea_nil) (by simp)) fun p H' _ h => ⟨"list", knd_list (sq_of h), rfl⟩) (ep_cons NoPl.lasts (ep_val NoPl.lasts (Ev.to (ev_op ev_c ev_c (rv_pow (by decide))) (y := .int 100000000000000000000) (by decide)) ⟨"int", knd_int, by decide⟩) ep_nil))))))
/-- an existing value, as it is -/
def IsV (v : V) : V → Hp → Prop := fun x _ => x = v
theorem IsV.lasts {v : V} : Lasts (IsV v) := fun x H H' _ h => h
theorem ep_is {te : TE} {v : V} (h : Ev te σ H v) : EvP te σ H (IsV v) := ep_val IsV.lasts h rfl
/-- of any kind -/
def AnyK (K : PySem.W.Frag) : V → Hp → Prop := fun x H => ∃ n, Knd K H x n
theorem AnyK.lasts : Lasts (AnyK K) := fun x H H' e ⟨n, k⟩ => ⟨n, k.mono e⟩
/-- what is like some data -/
def DpV (K : PySem.W.Frag) (d : PyData) : V → Hp → Prop := fun x H => Dp K H x d
theorem DpV.lasts {d : PyData} : Lasts (DpV K d) := fun x H H' e h => Dp.mono e h
theorem ep_imp {te : TE} {P R : V → Hp → Prop} (h : EvP te σ H P) (k : ∀ x H', Evl.Ex H H' → P x H' → R x H') : EvP te σ H R := fun H1 e Q q => h H1 e _ fun x H2 e2 p => q x H2 e2 (k x H2 (e.trans e2) p)
theorem ep_call {sp : Sp} {E : XK} {ta : TA} {Ps : List (V → Hp → Prop)} {P : V → Hp → Prop} (h : EvAP ta σ H Ps) (k : ∀ vs H1, Evl.Ex H H1 → HoldP Ps vs H1 → ∀ Q : VK, (∀ x H2, Evl.Ex H1 H2 → P x H2 → Q x H2) → sp vs H1 Q E) : EvP (tCall sp [] E ta) σ H P := fun H1 e Q q =>
  h H1 e _ fun vs H2 e2 hv => by
    show sp (vs ++ []) H2 Q E
    rw [List.append_nil]
    exact k vs H2 (e.trans e2) hv Q fun x H3 e3 p => q x H3 (e2.trans e3) p
theorem ev_opP {r : R2} {ta tb : TE} {Pa Pb : V → Hp → Prop} {v : V} (hPa : Lasts Pa) (ha : EvP ta σ H Pa) (hb : EvP tb σ H Pb) (k : ∀ x y H', Evl.Ex H H' → Pa x H' → Pb y H' → RV r x y H' v) : Ev (tOp r ta tb) σ H v := fun H1 e Q q =>
  ha H1 e _ fun x H2 e2 px => hb H2 (e.trans e2) _ fun y H3 e3 py => k x y H3 ((e.trans e2).trans e3) (hPa x _ _ e3 px) py H3 (Evl.Ex.refl _) _ fun H4 e4 => q H4 ((e2.trans e3).trans e4)
theorem ev_eqDp {ta tb : TE} {d d' : PyData} (ha : EvP ta σ H (DpV K d)) (hb : EvP tb σ H (DpV K d')) (sd : SeqAt.shaped d = true) (sd' : SeqAt.shaped d' = true) : Ev (tOp (rEqD K) ta tb) σ H (.bl (PyData.eqv d d')) := ev_opP DpV.lasts ha hb fun x y H' _ h1 h2 => rv_eqD h1 h2 sd sd'
theorem ev_neDp {ta tb : TE} {d d' : PyData} (ha : EvP ta σ H (DpV K d)) (hb : EvP tb σ H (DpV K d')) (sd : SeqAt.shaped d = true) (sd' : SeqAt.shaped d' = true) : Ev (tOp (rNeD K) ta tb) σ H (.bl (!PyData.eqv d d')) := ev_opP DpV.lasts ha hb fun x y H' _ h1 h2 => rv_neD h1 h2 sd sd'
theorem ep_tupD {ta : TA} {vs : List V} {ds : List PyData} (h : EvA ta σ H vs) (hl : vs.length ≤ 100000) (hd : ∀ H', Evl.Ex H H' → DpAll K H' vs ds) : EvP (tTup ta) σ H (DpV K (.tuple ds)) := ep_tup (eu_tup h hl) fun p H' e hp => .tup (st_of hp) (hd H' e)
theorem shd_str {n : Nat} (s : Str) (h : PyData.strOk s = true := by decide) : ShD n (.str s) := ⟨h, Nat.zero_le _, by show (s == s) = true; simp⟩
/-- a new tuple comes back -/
def RetU (xs : List V) (H : Hp) (Q : VK) : Prop := ∀ p H2, H p = none → Evl.Ex H H2 → H2 p = some (.tup xs) → Q (.ref p) H2
theorem RetU.go {xs : List V} {H H' : Hp} {Q : VK} (h : RetU xs H Q) (e : Evl.Ex H H') : RetU xs H' Q := fun p H2 hp e2 h2 => h p H2 (fresh_back e hp) (e.trans e2) h2
theorem s_retU {te : TE} {D : Ends} {xs : List V} (h : EvU te σ H xs) (k : RetU xs H D.rt) : tRet te D σ H := h H (Evl.Ex.refl _) _ fun p H2 hp e h2 => k p H2 hp e h2
/-- a store into a list leaves the kinds of things -/
theorem knd_upd {l : Addr} {xs ys : List V} {x : V} {n : String} (h : Knd K H x n) (hl : H l = some (.lst xs)) : Knd K (upd H l (.lst ys)) x n := by
  obtain ⟨h, hm⟩ := h
  refine ⟨?_, hm⟩
  have ne : ∀ {a : Addr} {o : HO}, H a = some o → o ≠ .lst xs → (upd H l (.lst ys)) a = some o := fun {a o} ha hn => by
    rw [upd_ne (fun z => by rw [z, hl] at ha; exact hn (Option.some.inj ha).symm)]
    exact ha
  cases h with
  | base b =>
    refine .base ?_
    cases b with
    | non => exact .non
    | bl b => exact .bl b
    | int i => exact .int i
    | str s => exact .str s
    | flt s => exact .flt s
    | @lst a zs h =>
      by_cases c : a = l
      · subst c
        exact .lst upd_same
      · exact .lst (by rw [upd_ne c]; exact h)
    | frz h => exact .frz (ne h (by intro z; cases z))
    | tup h => exact .tup (ne h (by intro z; cases z))
    | dK h => exact .dK (ne h (by intro z; cases z))
    | dT h => exact .dT (ne h (by intro z; cases z))
  | byt b => exact .byt b
  | set h => exact .set (ne h (by intro z; cases z))
  | kList h c => exact .kList h c
  | kTuple h c => exact .kTuple h c
  | kDict h c => exact .kDict h c
  | fTuple h => exact .fTuple (ne h (by intro z; cases z))
  | fDict h => exact .fDict (ne h (by intro z; cases z))
theorem s_setP {D : Ends} {te ta tb : TE} {l : Addr} {xs : List V} {j : Nat} {P : V → Hp → Prop} (hP : Lasts P) (hl : H l = some (.lst xs)) (h : EvP te σ H P) (ho : Ev ta σ H (.ref l)) (hi : Ev tb σ H (.int (j : Int))) (hj : j < xs.length) (k : ∀ x H1, Evl.Ex H H1 → P x H1 → D.nx σ (upd H1 l (.lst (xs.set j x)))) :
    tAsg te (gSub ta tb rSetL) D σ H := h H (Evl.Ex.refl H) _ fun x H1 e1 px => ho H1 e1 _ fun H2 e2 => hi H2 (e1.trans e2) _ fun H3 e3 =>
  ⟨l, xs, (j : Int), j, rfl, rfl, ((e1.trans e2).trans e3) l _ hl, ixN_nat hj, k x H3 ((e1.trans e2).trans e3) (hP x _ _ (e2.trans e3) px)⟩
theorem q_setP {D : Ends} {tz : TS} {te ta tb : TE} {l : Addr} {xs : List V} {j : Nat} {P : V → Hp → Prop} (hP : Lasts P) (hl : H l = some (.lst xs)) (h : EvP te σ H P) (ho : Ev ta σ H (.ref l)) (hi : Ev tb σ H (.int (j : Int))) (hj : j < xs.length) (k : ∀ x H1, Evl.Ex H H1 → P x H1 → tz D σ (upd H1 l (.lst (xs.set j x)))) :
    tSeq (tAsg te (gSub ta tb rSetL)) tz D σ H := s_setP (D := { D with nx := tz D }) hP hl h ho hi hj k
theorem s_dropX {D : Ends} {sp : Sp} {ta : TA} {vs : List V} {W : WX} (h : EvA ta σ H vs) (k : ∀ H1, Evl.Ex H H1 → sp vs H1 (fun _ H2 => D.nx σ H2) (WE W σ)) : tDrop (tCallS sp (WE W) ta) D σ H := h H (Evl.Ex.refl _) _ k
end
end Gp
namespace Gp
open PySem L2 Evl PySem.W
/-! rules: > of data that are alike, sorted of such -/
section
variable {X : Cx}
def rGtD (K : PySem.W.Frag) : R2 := fun x y H Q => ∃ d e, Dp K H x d ∧ Dp K H y e ∧ alike d e = true ∧ d ≠ .none ∧ d.depth ≤ 60 ∧ Q (.bl (dataLt e d)) H
theorem op_gtD (hu : X.A.units + 64 < cLine) : OpR X (compareOp .Gt) (rGtD X.K) := by
  intro pins s σ H x y v u Q I rx ry h
  obtain ⟨d, e, hd, he, al, hn, hde, q⟩ := h
  obtain ⟨as, r1⟩ := Dp.reads I d x v hd rx
  obtain ⟨bs, r2⟩ := Dp.reads I e y u he ry
  have z : wpAny (model X.prog X.w) X.A (compareOp .Gt v u) (EP X pins σ Q) X.xe s := PySem.W.rcGt_alike d e X.A s v u as bs r1 r2 al hn (by omega) X.prog X.w X.xe (EP X pins σ Q) ⟨.bl _, H, I, rfl, q⟩
  exact z
def rSortedD (K : PySem.W.Frag) : List V → Hp → VK → Prop := fun vs H Q => ∃ (a : Addr) (bs : List (V × PyData)), vs = [V.ref a] ∧ SqL K H a (bs.map (·.1)) ∧ (∀ b ∈ bs, Dp K H b.1 b.2) ∧ AllAlike (bs.map (·.2)) ∧ Sortable (bs.map (·.2)) ∧ (∀ b ∈ bs, b.2.depth ≤ 60) ∧
  ∀ p, H p = none → Q (.ref p) (upd H p (.lst ((bs.mergeSort (dataLe false (·.2))).map (·.1))))
theorem each_vals : ∀ (bs : List (V × PyData)) (its : List Value), Vals (bs.map (·.1)) its → EachIs (fun (u : Value) (b : V × PyData) => RelV b.1 u) its bs
  | [], _, h => by
    cases h
    exact .nil
  | b :: bs, _, h => by
    cases h with
    | cons h1 h2 => exact .cons h1 (each_vals bs _ h2)
theorem vals_each : ∀ (bs : List (V × PyData)) (its : List Value), EachIs (fun (u : Value) (b : V × PyData) => RelV b.1 u) its bs → Vals (bs.map (·.1)) its
  | [], _, h => by
    cases h
    exact .nil
  | b :: bs, _, h => by
    cases h with
    | cons h1 h2 => exact .cons h1 (vals_each bs _ h2)
theorem each_with {α β : Type} {R S : α → β → Prop} : ∀ {as : List α} {bs : List β}, EachIs R as bs → (∀ a b, b ∈ bs → R a b → S a b) → EachIs S as bs
  | _, _, .nil, _ => .nil
  | _, _, .cons h1 t, f => .cons (f _ _ List.mem_cons_self h1) (each_with t fun a b hb => f a b (List.mem_cons_of_mem _ hb))
theorem cr_sortedD (hu : X.A.units + 64 < cLine) : CallR X (.builtin "sorted") (rSortedD X.K) := by
  intro pins s σ H vs us Q I r h
  obtain ⟨a, bs, rfl, hs, hd, al, so, de, q⟩ := h
  obtain ⟨its, rv, hl, hz⟩ := I.list hs
  obtain ⟨u, rfl, ru⟩ := vals1 r
  obtain rfl : u = Value.ref a := ru
  have hlen : bs.length ≤ sizeLine := by rw [← List.length_map (f := (·.1)) (as := bs)]; exact hz
  have e := each_vals bs its rv
  refine sorted_data (enc := (·.2)) hl.isList e (each_with e fun u b hb hr => Dp.reads I b.2 b.1 u (hd b hb) hr) al so hlen (fun b hb => by have := de b hb; omega) fun out hout eo => ?_
  have eo' := vals_each _ _ eo
  obtain ⟨ep, he'⟩ := PyProof.Rows.sortedAll_at s.heap its out.toArray
  refine ⟨.ref _, upd H (s.heap.objs.size + 1) (.lst ((bs.mergeSort (dataLe false (·.2))).map (·.1))), I.laid (t' := s.toks) (fun _ _ => PyProof.Rows.sortedAll_old) (Nat.le_succ _) ⟨?_, out, ep, eo', he'⟩, rfl, q _ (I.hok.fresh (Nat.le_succ _))⟩
  rw [List.length_map, List.length_mergeSort]
  exact hlen
/-- xs[i], i not less than 0, as `xs[i] += ..` reads it -/
def rGetL (K : PySem.W.Frag) : V → V → Hp → VK → Prop := fun x y H Q => ∃ (p : Addr) (xs : List V) (i : Int) (v : V), x = .ref p ∧ y = .int i ∧ SqL K H p xs ∧ 0 ≤ i ∧ xs[i.toNat]? = some v ∧ Q v H
theorem get_list : PGet X (rGetL X.K) := by
  intro pins s σ H x y v u Q I rx ry h
  obtain ⟨p, xs, i, z, rfl, rfl, hq, h0, he, q⟩ := h
  cases rx
  obtain ⟨t, rfl⟩ := ry
  obtain ⟨its, r, pl, hz⟩ := I.list hq
  obtain ⟨w, ew, rw'⟩ := r.get he
  have hl := r.length
  have hj : i.toNat < xs.length := by
    rcases Nat.lt_or_ge i.toNat xs.length with h | h
    · exact h
    · rw [List.getElem?_eq_none h] at he
      cases he
  have hn := line63
  exact PyProof.Rows.getItem_listL pl.isList h0 (by omega) (by simpa using ew) ⟨z, H, I, rw', q⟩
end
section
/-- int(..) -/
def rInt1 : List V → Hp → VK → Prop := fun us H Q => (∃ i, us = [.int i] ∧ Q (.int i) H) ∨ ∃ b, us = [.bl b] ∧ Q (.int (if b then 1 else 0)) H
theorem ev_intB {σ : L2.St} {H : Hp} {ta : TE} {b : Bool} (h : Ev ta σ H (.bl b)) : Ev (tCB rInt1 (tCons ta tNil)) σ H (.int (if b then 1 else 0)) := fun H1 e Q q => h H1 e _ fun H2 e2 => .inr ⟨b, rfl, q H2 e2⟩
end
end Gp
namespace Gp
open PySem L2 Evl

/-! counts_of: 0 game 1 odd 2 row 3 number -/
abbrev N_counts_of : List Str := ["game", "odd", "row", "number"]
def t_counts_of (K : PySem.W.Frag) : TS :=
  (tSeq (tAsg (tSortedSet K (tLc (iList K (tVar 0)) (gName 2) (tTest (tOp rEq (tOp rMod (tOp (rIxT K) (tVar 2) (tC (.int 1))) (tC (.int 2))) (tC (.int 1)))) (tOp (rIxT K) (tVar 2) (tC (.int 1))) [2])) (gName 1))
  (tRet (tLc (iRev K (tCons (tVar 1) tNil)) (gName 3) tYes (tTup (tCons (tVar 3) (tCons (tCB (rLenS K) (tCons (tLc (iList K (tVar 0)) (gName 2) (tTest (tOp rEq (tOp (rIxT K) (tVar 2) (tC (.int 1))) (tVar 3))) (tVar 2) [2]) tNil)) tNil))) [3])))
/-! behind: 0 counts 1 number 2 measure 3 many 4 found 5 at 6 odd 7 most -/
abbrev N_behind : List Str := ["counts", "number", "measure", "many", "found", "at", "odd", "most"]
def t_behind (K : PySem.W.Frag) : TS :=
  (tSeq (tIfS (tTest (tOp rIsN (tVar 2) (tC .non))) (tRet (tC .non)) tNext)
  (tSeq (tAsg (tCB (rLenS K) (tCons (tLc (iList K (tVar 0)) (gTup K 2 (gCons (gName 6) (gCons (gName 7) gNil))) (tTest (tOp rGe (tVar 6) (tVar 1))) (tVar 6) [6, 7]) tNil)) (gName 3))
  (tSeq (tAsg (tOp rCat (tCB (rListS K) (tCons (tSl (rSlA K) (tVar 2) tNoPart (tPart (tVar 3))) tNil)) (tOp rRep (tLst (tCons (tC (.int 0)) tNil)) (tOp rSub (tCB (rLenS K) (tCons (tVar 0) tNil)) (tVar 3)))) (gName 4))
  (tSeq (tIfS (tTest (tOp rEq (tOp rMod (tVar 1) (tC (.int 2))) (tC (.int 0)))) (tRet (tCB (rTupS K) (tCons (tVar 4) tNil))) tNext)
  (tSeq (tAsg (tOp rSub (tVar 3) (tC (.int 1))) (gName 5))
  (tSeq (tWhile (tTest (tOp rGe (tVar 5) (tC (.int 0)))) (tSeq (tIfS (tTest (tOp rLt (tOp (rIxL K) (tVar 4) (tVar 5)) (tOp (rIxT K) (tOp (rIxL K) (tVar 0) (tVar 5)) (tC (.int 1))))) (tSeq (tAugS (tVar 4) (tVar 5) (tC (.int 1)) (rGetL K) (ipI fun i j => i + j) rSetL)
  (tRet (tCB (rTupS K) (tCons (tVar 4) tNil)))) tNext)
  (tSeq (tAsg (tC (.int 0)) (gSub (tVar 4) (tVar 5) rSetL))
  (tAug 5 (tC (.int 1)) (ipI fun i j => i - j)))))
  (tRet (tC .non))))))))
/-! is_more: 0 one 1 other -/
abbrev N_is_more : List Str := ["one", "other"]
def t_is_more (K : PySem.W.Frag) : TS :=
  (tSeq (tIfS (tOr (tTest (tOp rIsN (tVar 0) (tC .non))) (tTest (tOp rIsN (tVar 1) (tC .non)))) (tRet (tAndV (tOp rIsN (tVar 0) (tC .non)) (tOp rNotN (tVar 1) (tC .non)))) tNext)
  (tRet (tOp (rGtD K) (tVar 0) (tVar 1))))
/-! lifted: 0 game 1 counts 2 known 3 place 4 player 5 number 6 ways 7 found 8 best 9 one 10 way -/
abbrev N_lifted : List Str := ["game", "counts", "known", "place", "player", "number", "ways", "found", "best", "one", "way"]
def t_lifted (K : PySem.W.Frag) (sp_behind : Sp) (sp_is_more : Sp) : TS :=
  (tSeq (tAsg (tOp (rIxL K) (tVar 0) (tVar 3)) (gTup K 3 (gCons (gName 4) (gCons (gName 5) (gCons (gName 6) gNil)))))
  (tSeq (tAsg (tLc (iList K (tVar 6)) (gName 10) tYes (tCall sp_behind [] E0 (tCons (tVar 1) (tCons (tVar 5) (tCons (tOp (rIxL K) (tVar 2) (tVar 10)) tNil)))) [10]) (gName 7))
  (tSeq (tAsg (tOp (rIxL K) (tVar 7) (tC (.int 0))) (gName 8))
  (tSeq (tFor (iList K (tSl (rSlL K) (tVar 7) (tPart (tC (.int 1))) tNoPart)) (gName 9) (tIfS (tOr (tAnd (tTest (tOp rEq (tVar 4) (tC (.int 0)))) (tB (tCall sp_is_more [] E0 (tCons (tVar 8) (tCons (tVar 9) tNil))))) (tAnd (tTest (tOp rEq (tVar 4) (tC (.int 1)))) (tB (tCall sp_is_more [] E0 (tCons (tVar 9) (tCons (tVar 8) tNil)))))) (tAsg (tVar 9) (gName 8)) tNext))
  (tRet (tVar 8))))))
/-! measures: 0 game 1 counts 2 found 3 fresh 4 place 5 best 6 row -/
abbrev N_measures : List Str := ["game", "counts", "found", "fresh", "place", "best", "row"]
def t_measures (K : PySem.W.Frag) (sp_need_game : Sp) (sp_counts_of : Sp) (sp_lifted : Sp) (sp_is_more : Sp) (C_TooMany : Addr) (W : WX) : TS :=
  (tSeq (tDrop (tCall sp_need_game [] E0 (tCons (tVar 0) tNil)))
  (tSeq (tIfS (tTest (tOp rGt (tCB (rLenS K) (tCons (tVar 0) tNil)) (tC (.int 10)))) (tRaise W C_TooMany) tNext)
  (tSeq (tAsg (tCall sp_counts_of [] E0 (tCons (tVar 0) tNil)) (gName 1))
  (tSeq (tAsg (tLc (iList K (tVar 0)) (gName 6) tYes (tCB (rTupS K) (tCons (tOp rRep (tLst (tCons (tC (.int 0)) tNil)) (tCB (rLenS K) (tCons (tVar 1) tNil))) tNil)) [6]) (gName 2))
  (tSeq (tAsg (tC (.bl true)) (gName 3))
  (tSeq (tWhile (tB (tVar 3)) (tSeq (tAsg (tC (.bl false)) (gName 3))
  (tFor (iRng1 (tCons (tCB (rLenS K) (tCons (tVar 0) tNil)) tNil)) (gName 4) (tSeq (tAsg (tCall sp_lifted [] E0 (tCons (tVar 0) (tCons (tVar 1) (tCons (tVar 2) (tCons (tVar 4) tNil))))) (gName 5))
  (tIfS (tB (tCall sp_is_more [] E0 (tCons (tVar 5) (tCons (tOp (rIxL K) (tVar 2) (tVar 4)) tNil)))) (tSeq (tAsg (tVar 5) (gSub (tVar 2) (tVar 4) rSetL))
  (tAsg (tC (.bl true)) (gName 3))) tNext)))))
  (tRet (tVar 2))))))))
end Gp
namespace Gp
open PySem L2 Evl

/-! _law_copied: 0 _law_game_here 1 _law_player 2 _law_number 3 _law_ways -/
abbrev N_law_copied : List Str := ["_law_game_here", "_law_player", "_law_number", "_law_ways"]
def t_law_copied (K : PySem.W.Frag) : TS :=
  (tRet (tLc (iList K (tVar 0)) (gTup K 3 (gCons (gName 1) (gCons (gName 2) (gCons (gName 3) gNil)))) tYes (tTup (tCons (tVar 1) (tCons (tVar 2) (tCons (tCB (rListS K) (tCons (tVar 3) tNil)) tNil)))) [1, 2, 3]))
/-! _law_word: 0 _law_e 1 _law_kinds -/
abbrev N_law_word : List Str := ["_law_e", "_law_kinds"]
def t_law_word (K : PySem.W.Frag) (C_BadPlace : Addr) (C_BadPlayer : Addr) (C_BadGame : Addr) (C_TooMany : Addr) (C_BadSteps : Addr) : TS :=
  (tSeq (tIfS (tTest (tOp rIsN (tVar 0) (tC .non))) (tRet (tC (.str "none"))) tNext)
  (tSeq (tAsg (tLst (tCons (tCB (rIsK K) (tCons (tVar 0) (tCons (tC (.ref C_BadGame)) tNil))) (tCons (tCB (rIsK K) (tCons (tVar 0) (tCons (tC (.ref C_BadPlayer)) tNil))) (tCons (tCB (rIsK K) (tCons (tVar 0) (tCons (tC (.ref C_BadPlace)) tNil))) tNil)))) (gName 1))
  (tSeq (tAsg (tOp rCat (tVar 1) (tLst (tCons (tCB (rIsK K) (tCons (tVar 0) (tCons (tC (.ref C_BadSteps)) tNil))) (tCons (tCB (rIsK K) (tCons (tVar 0) (tCons (tC (.ref C_TooMany)) tNil))) tNil)))) (gName 1))
  (tSeq (tIfS (tOr (tTest (tOp rNe (tBM K "list" (rCntB K) (tVar 1) (tCons (tC (.bl true)) tNil)) (tC (.int 1)))) (tNot (tB (tCB (rIsK K) (tCons (tVar 0) (tCons (tC (.ty "ValueError")) tNil)))))) (tRet (tC (.str "odd"))) tNext)
  (tRet (tOp (rIxL K) (tLst (tCons (tC (.str "game")) (tCons (tC (.str "player")) (tCons (tC (.str "place")) (tCons (tC (.str "steps")) (tCons (tC (.str "many")) tNil)))))) (tBM K "list" (rIndex K) (tVar 1) (tCons (tC (.bl true)) tNil))))))))
/-! _law_wanted: 0 _law_counts 1 _law_number 2 _law_known 3 _law_found 4 _law_k -/
abbrev N_law_wanted : List Str := ["_law_counts", "_law_number", "_law_known", "_law_found", "_law_k"]
def t_law_wanted (K : PySem.W.Frag) : TS :=
  (tSeq (tIfS (tTest (tOp rIsN (tVar 2) (tC .non))) (tRet (tC .non)) tNext)
  (tSeq (tAsg (tLst tNil) (gName 3))
  (tSeq (tFor (iRng1 (tCons (tCB (rLenS K) (tCons (tVar 0) tNil)) tNil)) (gName 4) (tDrop (tBM K "list" rAppend (tVar 3) (tCons (tOp rMul (tOp (rIxT K) (tVar 2) (tVar 4)) (tCB rInt1 (tCons (tOp rGe (tOp (rIxT K) (tOp (rIxL K) (tVar 0) (tVar 4)) (tC (.int 0))) (tVar 1)) tNil))) tNil))))
  (tSeq (tIfS (tTest (tOp rEq (tOp rMod (tVar 1) (tC (.int 2))) (tC (.int 0)))) (tRet (tCB (rTupS K) (tCons (tVar 3) tNil))) tNext)
  (tSeq (tFor (iRng3 (tCons (tOp rSub (tCB (rLenS K) (tCons (tVar 0) tNil)) (tC (.int 1))) (tCons (tUn rNeg (tC (.int 1))) (tCons (tUn rNeg (tC (.int 1))) tNil)))) (gName 4) (tIfS (tTest (tOp rGe (tOp (rIxT K) (tOp (rIxL K) (tVar 0) (tVar 4)) (tC (.int 0))) (tVar 1))) (tSeq (tIfS (tTest (tOp rLt (tOp (rIxL K) (tVar 3) (tVar 4)) (tOp (rIxT K) (tOp (rIxL K) (tVar 0) (tVar 4)) (tC (.int 1))))) (tRet (tCB (rTupS K) (tCons (tOp rCat (tOp rCat (tSl (rSlL K) (tVar 3) tNoPart (tPart (tVar 4))) (tLst (tCons (tOp rAdd (tOp (rIxL K) (tVar 3) (tVar 4)) (tC (.int 1))) tNil))) (tSl (rSlL K) (tVar 3) (tPart (tOp rAdd (tVar 4) (tC (.int 1)))) tNoPart)) tNil))) tNext)
  (tAsg (tC (.int 0)) (gSub (tVar 3) (tVar 4) rSetL))) tNext))
  (tRet (tC .non)))))))
/-! _law_rank: 0 _law_measure -/
abbrev N_law_rank : List Str := ["_law_measure"]
def t_law_rank (K : PySem.W.Frag) : TS :=
  (tSeq (tIfS (tTest (tOp rIsN (tVar 0) (tC .non))) (tRet (tTup (tCons (tC (.int 1)) (tCons (tTup tNil) tNil)))) tNext)
  (tRet (tTup (tCons (tC (.int 0)) (tCons (tVar 0) tNil)))))
/-! _law_measures: 0 _law_game_here 1 _law_counts 2 _law_number 3 _law_found 4 _law_place 5 _law_player 6 _law_ways 7 _law_ranks 8 _law_best 9 _law_row 10 _law_pair 11 _law_way -/
abbrev N_law_measures : List Str := ["_law_game_here", "_law_counts", "_law_number", "_law_found", "_law_place", "_law_player", "_law_ways", "_law_ranks", "_law_best", "_law_row", "_law_pair", "_law_way"]
def t_law_measures (K : PySem.W.Frag) (sp_law_wanted : Sp) (sp_law_rank : Sp) : TS :=
  (tSeq (tAsg (tLst tNil) (gName 1))
  (tSeq (tFor (iRev K (tCons (tSortedSet K (tLc (iList K (tVar 0)) (gName 9) tYes (tOp (rIxT K) (tVar 9) (tC (.int 1))) [9])) tNil)) (gName 2) (tIfS (tTest (tOp rEq (tOp rMod (tVar 2) (tC (.int 2))) (tC (.int 1)))) (tDrop (tBM K "list" rAppend (tVar 1) (tCons (tTup (tCons (tVar 2) (tCons (tCB (rLenS K) (tCons (tLc (iList K (tVar 0)) (gName 9) (tTest (tOp rEq (tOp (rIxT K) (tVar 9) (tC (.int 1))) (tVar 2))) (tVar 9) [9]) tNil)) tNil))) tNil))) tNext))
  (tSeq (tAsg (tLc (iList K (tVar 0)) (gName 9) tYes (tCB (rTupS K) (tCons (tLc (iList K (tVar 1)) (gName 10) tYes (tC (.int 0)) [10]) tNil)) [9]) (gName 3))
  (tSeq (tAsg (tOp rSub (tCB (rLenS K) (tCons (tVar 0) tNil)) (tC (.int 1))) (gName 4))
  (tSeq (tWhile (tTest (tOp rGe (tVar 4) (tC (.int 0)))) (tSeq (tAsg (tOp (rIxL K) (tVar 0) (tVar 4)) (gTup K 3 (gCons (gName 5) (gCons (gName 2) (gCons (gName 6) gNil)))))
  (tSeq (tAsg (tCB (rSortedD K) (tCons (tLc (iList K (tVar 6)) (gName 11) tYes (tCall sp_law_rank [] E0 (tCons (tCall sp_law_wanted [] E0 (tCons (tVar 1) (tCons (tVar 2) (tCons (tOp (rIxL K) (tVar 3) (tVar 11)) tNil)))) tNil)) [11]) tNil)) (gName 7))
  (tSeq (tAsg (tOp (rIxL K) (tLst (tCons (tOp (rIxL K) (tVar 7) (tC (.int 0))) (tCons (tOp (rIxL K) (tVar 7) (tUn rNeg (tC (.int 1)))) tNil))) (tVar 5)) (gName 8))
  (tSeq (tIfS (tTest (tOp (rGtD K) (tVar 8) (tCall sp_law_rank [] E0 (tCons (tOp (rIxL K) (tVar 3) (tVar 4)) tNil)))) (tSeq (tAsg (tOp (rIxL K) (tLst (tCons (tOp (rIxT K) (tVar 8) (tC (.int 1))) (tCons (tC .non) tNil))) (tOp (rIxT K) (tVar 8) (tC (.int 0)))) (gSub (tVar 3) (tVar 4) rSetL))
  (tAsg (tCB (rLenS K) (tCons (tVar 0) tNil)) (gName 4))) tNext)
  (tAsg (tOp rSub (tVar 4) (tC (.int 1))) (gName 4)))))))
  (tRet (tVar 3)))))))
/-! _law_refused: 0 _law_game_here 1 _law_refused_here 2 _law_e -/
abbrev N_law_refused : List Str := ["_law_game_here", "_law_refused_here", "_law_e"]
def t_law_refused (K : PySem.W.Frag) (sp_measures : Sp) (sp_law_word : Sp) (C_GongError : Addr) : TS :=
  (tSeq (tAsg (tC .non) (gName 1))
  (tSeq (tTryK K (.ref C_GongError) 2 (fun W => (tDrop (tCallS sp_measures (WE W) (tCons (tVar 0) tNil)))) (fun _ _ _ => (tAsg (tVar 2) (gName 1))))
  (tRet (tCall sp_law_word [] E0 (tCons (tVar 1) tNil)))))
/-! law: 0 _law_script 1 _law_game_here 2 _law_handed 3 _law_due 4 _law_found 5 _law_more 6 _law_one 7 _law_place -/
abbrev N_law : List Str := ["_law_script", "_law_game_here", "_law_handed", "_law_due", "_law_found", "_law_more", "_law_one", "_law_place"]
def t_law (K : PySem.W.Frag) (sp_law_game : Sp) (sp_law_copied : Sp) (sp_law_measures : Sp) (sp_measures : Sp) (sp_won : Sp) (sp_law_refused : Sp) : TS :=
  (tSeq (tAsg (tCall sp_law_game [] E0 (tCons (tVar 0) (tCons (tOp (rIxL K) (tLst (tCons (tC (.int 6)) (tCons (tC (.int 6)) (tCons (tC (.int 6)) (tCons (tC (.int 6)) (tCons (tC (.int 6)) (tCons (tC (.int 6)) (tCons (tC (.int 6)) (tCons (tC (.int 10)) tNil))))))))) (tOp rMod (tCB (rLenS K) (tCons (tVar 0) tNil)) (tC (.int 8)))) tNil))) (gName 1))
  (tSeq (tAsg (tCall sp_law_copied [] E0 (tCons (tVar 1) tNil)) (gName 2))
  (tSeq (tAsg (tCall sp_law_measures [] E0 (tCons (tVar 1) tNil)) (gName 3))
  (tSeq (tAsg (tCall sp_measures [] E0 (tCons (tVar 2) tNil)) (gName 4))
  (tSeq (tIfS (tOr (tNot (tB (tCB (rIsi K) (tCons (tVar 4) (tCons (tC (.ty "list")) tNil))))) (tOr (tTest (tOp (rNeD K) (tVar 4) (tVar 3))) (tTest (tOp (rNeD K) (tVar 2) (tVar 1))))) (tRet (tC (.bl false))) tNext)
  (tSeq (tIfS (tTest (tOp (rNeD K) (tLc (iList K (tVar 4)) (gName 6) (tAnd (tTest (tOp rNotN (tVar 6) (tC .non))) (tNot (tB (tCB (rIsi K) (tCons (tVar 6) (tCons (tC (.ty "tuple")) tNil)))))) (tVar 6) [6]) (tLst tNil))) (tRet (tC (.bl false))) tNext)
  (tSeq (tIfS (tTest (tOp (rNeD K) (tLc (iList K (tVar 4)) (gName 6) tYes (tCB rInt1 (tCons (tOp rIsN (tVar 6) (tC .non)) tNil)) [6]) (tCall sp_won [] E0 (tCons (tVar 1) tNil)))) (tRet (tC (.bl false))) tNext)
  (tSeq (tDrop (tBM K "list" rAppend (tVar 4) (tCons (tC .non) tNil)))
  (tSeq (tIfS (tOr (tTest (tOp (rNeD K) (tCall sp_measures [] E0 (tCons (tVar 1) tNil)) (tVar 3))) (tTest (tOp (rNeD K) (tCall sp_measures [] E0 (tCons (tLst tNil) tNil)) (tLst tNil)))) (tRet (tC (.bl false))) tNext)
  (tSeq (tAsg (tOp (rCatS K) (tVar 1) (tLc (iRng2 (tCons (tCB (rLenS K) (tCons (tVar 1) tNil)) (tCons (tC (.int 11)) tNil))) (gName 7) tYes (tTup (tCons (tOp rMod (tVar 7) (tC (.int 2))) (tCons (tVar 7) (tCons (tLst (tCons (tVar 7) tNil)) tNil)))) [7])) (gName 5))
  (tRet (tAndV (tOp rEq (tCall sp_law_refused [] E0 (tCons (tVar 5) tNil)) (tC (.str "many"))) (tOp rEq (tCall sp_law_refused [] E0 (tCons (tSl (rSlL K) (tVar 5) tNoPart (tPart (tC (.int 10)))) tNil)) (tC (.str "none")))))))))))))))
end Gp
namespace Gp
open PySem L2 Evl
local macro_rules | `(tactic| one_sign) => `(tactic| first | exact Evl.Ex.refl _ | assumption | exact Evl.Ex.new (by assumption) | (refine Evl.Ex.trans ?_ (by assumption); one_sign) | (refine Evl.Ex.trans ?_ (Evl.Ex.new (by assumption)); one_sign))
local macro_rules | `(tactic| one_place) => `(tactic| first | assumption | exact upd_same | (refine Evl.ex_l ?_ (by assumption); one_sign) | (refine Evl.ex_t ?_ (by assumption); one_sign) | (refine Evl.sq_of ?_; one_place) | (refine Evl.st_of ?_; one_place) | (refine (show Evl.Ex _ _ from ?_) _ _ (by assumption); one_sign))
local macro_rules | `(tactic| one_item) => `(tactic| first | ((with_reducible apply ev_var); rfl) | (with_reducible exact ev_c) | assumption | (refine Ev.mono ?_ (by assumption); one_sign) | ((with_reducible apply ev_op) <;> one_item) | (with_reducible exact rv_I0) | ((with_reducible refine rv_mod ?_); omega) | ((with_reducible refine rv_div ?_ ?_) <;> omega) | ((with_reducible refine rv_mulL ?_); omega) | ((with_reducible refine rv_mulR ?_); omega) | ((with_reducible refine rv_pow ?_); decide) | ((with_reducible refine rv_eq ?_); rfl) | ((with_reducible refine rv_ne ?_); rfl) | (with_reducible exact rv_isN) | (with_reducible exact rv_notN) | ((with_reducible apply rv_inI); one_place) | ((with_reducible apply rv_niI); one_place) | ((with_reducible apply rv_ixT) <;> (first | rfl | one_place)) | ((with_reducible apply ev_len) <;> (first | one_item | one_place)) | ((with_reducible apply ev_lenT) <;> (first | one_item | one_place)) | (with_reducible exact ea_nil) | ((with_reducible apply ea_cons) <;> one_item) | ((with_reducible apply et_test); one_item) | ((with_reducible apply et_B); one_item) | (with_reducible exact et_yes) | ((with_reducible apply et_not); one_item) | ((with_reducible apply ev_chain) <;> one_item) | ((with_reducible apply ev_notV); one_item))
/-- the five classes of refusals, in the order of the law's words -/
structure Five where
  game : Addr
  player : Addr
  place : Addr
  steps : Addr
  many : Addr
/-- an exception of the class D is of the i-th of them -/
structure KitT (K : PySem.W.Frag) (C : Five) (D : Addr) (i : Nat) : Prop where
  exc : ∃ mg x, ExcT K mg x D
  sp : PySem.W.specialIn K (.builtin "object.__class__") "__get__" = some (some (.builtin "getset_descriptor.__get__"))
  ht : PySem.W.takesIn K (.builtin "object.__class__") = some true
  k0 : PySem.W.kitOne K (.ref D) (.ref C.game) = some (i == 0)
  k1 : PySem.W.kitOne K (.ref D) (.ref C.player) = some (i == 1)
  k2 : PySem.W.kitOne K (.ref D) (.ref C.place) = some (i == 2)
  k3 : PySem.W.kitOne K (.ref D) (.ref C.steps) = some (i == 3)
  k4 : PySem.W.kitOne K (.ref D) (.ref C.many) = some (i == 4)
  kv : PySem.W.kitOne K (.ref D) (.type "ValueError") = some true
def wordOf (i : Nat) : Str := (["game", "player", "place", "steps", "many"] : List Str).getD i ""
def sp_law_word (K : PySem.W.Frag) (C : Five) : Sp := fun vs H Q _ => ∃ x, vs = [x] ∧ ((x = .non ∧ RetV (.str "none") H Q) ∨ ∃ a D d i, x = .ref a ∧ H a = some (ExK (.ref D) d a) ∧ (d = none ∨ ∃ dx fs, d = some dx ∧ H dx = some (.xd fs)) ∧ i < 5 ∧ KitT K C D i ∧ RetV (.str (wordOf i)) H Q)
section
variable {K : PySem.W.Frag} {σ : L2.St} {H : Hp}
theorem ev_isK {ta tc : TE} {a D : Addr} {d : Option Addr} {c : V} {cv : Value} {b : Bool} (h : Ev ta σ H (.ref a)) (hc : Ev tc σ H c) (hH : H a = some (ExK (.ref D) d a)) (hd : d = none ∨ ∃ dx fs, d = some dx ∧ H dx = some (.xd fs)) (hx : ∃ mg x, ExcT K mg x D) (sp : PySem.W.specialIn K (.builtin "object.__class__") "__get__" = some (some (.builtin "getset_descriptor.__get__")))
    (ht : PySem.W.takesIn K (.builtin "object.__class__") = some true) (hcv : ∀ u, RelV c u → u = cv) (k : PySem.W.kitOne K (.ref D) cv = some b) : Ev (tCB (rIsK K) (tCons ta (tCons tc tNil))) σ H (.bl b) := fun H1 e Q q =>
  ea_cons h (ea_cons hc ea_nil) H1 e _ fun H2 e2 => ⟨a, D, d, c, cv, b, rfl, (e.trans e2) _ _ hH, hd.elim .inl (fun ⟨dx, fs, z1, z2⟩ => .inr ⟨dx, fs, z1, (e.trans e2) _ _ z2⟩), hx, sp, ht, hcv, k, q H2 e2⟩
theorem el_catVL {ta tb : TE} {p : Addr} {xs ys : List V} (ha : Ev ta σ H (.ref p)) (hb : EvL tb σ H ys) (hp : H p = some (.lst xs)) (hz : xs.length + ys.length ≤ 100000) : EvL (tOp rCat ta tb) σ H (xs ++ ys) := fun H1 e Q k =>
  ha H1 e _ fun H2 e2 => hb H2 (e.trans e2) _ fun q H3 hq e3 h3 => ⟨p, q, xs, ys, rfl, rfl, ((e.trans e2).trans e3) _ _ hp, h3, sz_of hz, fun p3 hp3 => k p3 _ (fresh_back (e2.trans e3) hp3) ((e2.trans e3).trans (Evl.Ex.new hp3)) upd_same⟩
theorem ev_countB {ta tb : TE} {a : Addr} {bs : List Bool} {k : Bool} (ha : Ev ta σ H (.ref a)) (hb : Ev tb σ H (.bl k)) (h : SqL K H a (bs.map V.bl)) : Ev (tBM K "list" (rCntB K) ta (tCons tb tNil)) σ H (.int (bs.count k : Nat)) := fun H1 e Q q => by
  refine ha H1 e _ fun H2 e2 => ⟨.inl ⟨rfl, _, ex_l (e.trans e2) h⟩, hb H2 (e.trans e2) _ fun H3 e3 => ?_⟩
  exact ⟨a, bs, k, rfl, rfl, ex_l ((e.trans e2).trans e3) h, q H3 (e2.trans e3)⟩
theorem eqV_bl (a b : Bool) : eqV (.bl a) (.bl b) = (a == b) := by cases a <;> cases b <;> simp [eqV]
theorem ev_indexB {ta tb : TE} {a : Addr} {bs : List Bool} {j : Nat} (ha : Ev ta σ H (.ref a)) (hb : Ev tb σ H (.bl true)) (h : SqL K H a (bs.map V.bl)) (hj : bs[j]? = some true) (hn : ∀ m : Nat, m < j → bs[m]? = some false) : Ev (tBM K "list" (rIndex K) ta (tCons tb tNil)) σ H (.int (j : Nat)) := fun H1 e Q q => by
  refine ha H1 e _ fun H2 e2 => ⟨.inl ⟨rfl, _, ex_l (e.trans e2) h⟩, hb H2 (e.trans e2) _ fun H3 e3 => ?_⟩
  refine ⟨a, bs.map V.bl, .bl true, j, .bl true, rfl, rfl, ex_l ((e.trans e2).trans e3) h, rfl, ?_, ?_, by rw [eqV_bl]; rfl, fun m z hm hz => ?_, q H3 (e2.trans e3)⟩
  · rw [List.all_eq_true]
    intro y hy
    obtain ⟨b, _, rfl⟩ := List.mem_map.mp hy
    rfl
  · rw [List.getElem?_map, hj]; rfl
  · rw [List.getElem?_map, hn m hm] at hz
    cases hz
    rw [eqV_bl]; rfl
theorem rel_ref (a : Addr) : ∀ u, RelV (.ref a) u → u = Value.ref a := fun u h => h
theorem rel_ty (n : String) : ∀ u, RelV (.ty n) u → u = Value.type n := fun u h => h
theorem pure_law_word (C : Five) (vs : List V) (H : Hp) (Q : VK) (E : XK) (h : sp_law_word K C vs H Q E) : t_law_word K C.place C.player C.game C.many C.steps { nx := fun _ H' => Q .non H', rt := Q } (start N_law_word vs) H := by
  obtain ⟨x, rfl, h⟩ := h
  rcases h with ⟨rfl, q⟩ | ⟨a, D, d, i, rfl, hH, hd, hi, kt, q⟩
  · exact q_when (σ := [some .non, none]) (b := true) (et_test (Ev.to (ev_op (ev_var rfl) ev_c rv_isN) rfl)) (fun _ H1 e1 => s_ret ev_c fun H2 e2 => q.go (e1.trans e2)) (fun z => by cases z)
  refine q_when (σ := [some (.ref a), none]) (b := false) (et_test (Ev.to (ev_op (ev_var rfl) ev_c rv_isN) rfl)) (fun z => by cases z) fun _ H1 e1 => ?_
  have dd : ∀ {H'}, Evl.Ex H H' → (d = none ∨ ∃ dx fs, d = some dx ∧ H' dx = some (.xd fs)) := fun e => hd.elim .inl fun ⟨dx, fs, z1, z2⟩ => .inr ⟨dx, fs, z1, e _ _ z2⟩
  have isk : ∀ (σ : L2.St) (H' : Hp) (c : Addr) (b : Bool), Evl.Ex H H' → σ[0]? = some (some (.ref a)) → PySem.W.kitOne K (.ref D) (.ref c) = some b → Ev (tCB (rIsK K) (tCons (tVar 0) (tCons (tC (.ref c)) tNil))) σ H' (.bl b) := fun σ H' c b e h k => ev_isK (ev_var h) ev_c (e _ _ hH) (dd e) kt.exc kt.sp kt.ht (rel_ref c) k
  refine q_asgL (σ := [some (.ref a), none]) (el_lst (vs := [.bl (i == 0), .bl (i == 1), .bl (i == 2)]) (ea_cons (isk _ _ _ _ e1 rfl kt.k0) (ea_cons (isk _ _ _ _ e1 rfl kt.k1) (ea_cons (isk _ _ _ _ e1 rfl kt.k2) ea_nil))) (by simp)) fun L H2 hL e2 hL2 => ?_
  have e02 := e1.trans e2
  refine q_asgL (σ := [some (.ref a), some (.ref L)]) (el_catVL (ev_var rfl) (el_lst (vs := [.bl (i == 3), .bl (i == 4)]) (ea_cons (isk _ _ _ _ e02 rfl kt.k3) (ea_cons (isk _ _ _ _ e02 rfl kt.k4) ea_nil)) (by simp)) hL2 (by simp)) fun M H3 hM e3 hM3 => ?_
  have e03 := e02.trans e3
  have hM3' : H3 M = some (.lst (([i == 0, i == 1, i == 2, i == 3, i == 4] : List Bool).map V.bl)) := hM3
  have cnt : ([i == 0, i == 1, i == 2, i == 3, i == 4] : List Bool).count true = 1 := by
    match i, hi with
    | 0, _ => rfl
    | 1, _ => rfl
    | 2, _ => rfl
    | 3, _ => rfl
    | 4, _ => rfl
  have idx : ([i == 0, i == 1, i == 2, i == 3, i == 4] : List Bool)[i]? = some true ∧ ∀ m : Nat, m < i → ([i == 0, i == 1, i == 2, i == 3, i == 4] : List Bool)[m]? = some false := by
    match i, hi with
    | 0, _ => exact ⟨rfl, fun m h => absurd h (Nat.not_lt_zero _)⟩
    | 1, _ => exact ⟨rfl, fun m h => match m, h with | 0, _ => rfl⟩
    | 2, _ => exact ⟨rfl, fun m h => match m, h with | 0, _ => rfl | 1, _ => rfl⟩
    | 3, _ => exact ⟨rfl, fun m h => match m, h with | 0, _ => rfl | 1, _ => rfl | 2, _ => rfl⟩
    | 4, _ => exact ⟨rfl, fun m h => match m, h with | 0, _ => rfl | 1, _ => rfl | 2, _ => rfl | 3, _ => rfl⟩
  refine q_when (σ := [some (.ref a), some (.ref M)]) (b := false || false) (et_or (et_test (Ev.to (ev_op (ev_countB (ev_var rfl) ev_c (sq_of hM3')) ev_c (rv_ne rfl)) (by rw [cnt]; rfl))) fun _ => et_not (a := true) (et_B (ev_isK (ev_var rfl) ev_c (e03 _ _ hH) (dd e03) kt.exc kt.sp kt.ht (rel_ty "ValueError") kt.kv))) (fun z => by cases z) fun _ H4 e4 => ?_
  have hM4 := e4 _ _ hM3'
  have hat : atI [V.str "game", .str "player", .str "place", .str "steps", .str "many"] ((i : Nat) : Int) = some (.str (wordOf i)) := by
    refine atI_nat ?_
    match i, hi with
    | 0, _ => rfl
    | 1, _ => rfl
    | 2, _ => rfl
    | 3, _ => rfl
    | 4, _ => rfl
  refine s_ret (σ := [some (.ref a), some (.ref M)]) (ev_opL1 (y := .int (i : Nat)) (el_lst (vs := [V.str "game", .str "player", .str "place", .str "steps", .str "many"]) (ea_cons ev_c (ea_cons ev_c (ea_cons ev_c (ea_cons ev_c (ea_cons ev_c ea_nil))))) (by simp)) (fun H5 e5 => ev_indexB (ev_var rfl) ev_c (sq_of (e5 _ _ hM4)) idx.1 idx.2) fun p H5 hp e5 => rv_ixL (sq_of hp) hat) fun H5 e5 => q.go ((e03.trans e4).trans e5)
end
end Gp
namespace Gp
open PySem L2 Evl
local macro_rules | `(tactic| one_sign) => `(tactic| first | exact Evl.Ex.refl _ | assumption | exact Evl.Ex.new (by assumption) | (refine Evl.Ex.trans ?_ (by assumption); one_sign) | (refine Evl.Ex.trans ?_ (Evl.Ex.new (by assumption)); one_sign))
local macro_rules | `(tactic| one_place) => `(tactic| first | assumption | exact upd_same | (refine Evl.ex_l ?_ (by assumption); one_sign) | (refine Evl.ex_t ?_ (by assumption); one_sign) | (refine Evl.sq_of ?_; one_place) | (refine Evl.st_of ?_; one_place) | (refine (show Evl.Ex _ _ from ?_) _ _ (by assumption); one_sign))
local macro_rules | `(tactic| one_item) => `(tactic| first | ((with_reducible apply ev_var); rfl) | (with_reducible exact ev_c) | assumption | (refine Ev.mono ?_ (by assumption); one_sign) | ((with_reducible apply ev_op) <;> one_item) | (with_reducible exact rv_I0) | ((with_reducible refine rv_mod ?_); omega) | ((with_reducible refine rv_div ?_ ?_) <;> omega) | ((with_reducible refine rv_mulL ?_); omega) | ((with_reducible refine rv_mulR ?_); omega) | ((with_reducible refine rv_pow ?_); decide) | ((with_reducible refine rv_eq ?_); rfl) | ((with_reducible refine rv_ne ?_); rfl) | (with_reducible exact rv_isN) | (with_reducible exact rv_notN) | ((with_reducible apply rv_inI); one_place) | ((with_reducible apply rv_niI); one_place) | ((with_reducible apply rv_ixT) <;> (first | rfl | one_place)) | ((with_reducible apply ev_len) <;> (first | one_item | one_place)) | ((with_reducible apply ev_lenT) <;> (first | one_item | one_place)) | (with_reducible exact ea_nil) | ((with_reducible apply ea_cons) <;> one_item) | ((with_reducible apply et_test); one_item) | ((with_reducible apply et_B); one_item) | (with_reducible exact et_yes) | ((with_reducible apply et_not); one_item) | ((with_reducible apply ev_chain) <;> one_item) | ((with_reducible apply ev_notV); one_item))
def sp_law_copied (K : PySem.W.Frag) : Sp := fun vs H Q _ => ∃ a g rt rw, vs = [.ref a] ∧ GA K H a g rt rw ∧ OkG g ∧ ∀ p rt' rw' H', H p = none → Evl.Ex H H' → GA K H' p g rt' rw' → Q (.ref p) H'
section
variable {K : PySem.W.Frag}
theorem lc_src {σ : L2.St} {H : Hp} {tl : TE} {a : Addr} {g : TG} {t : TT} {te : TE} {us : List Nat} {Q : VK} (h : Ev tl σ H (.ref a)) (k : ∀ H1, Evl.Ex H H1 → tLc (iList K (tC (.ref a))) g t te us σ H1 Q) : tLc (iList K tl) g t te us σ H Q := h H (Evl.Ex.refl _) _ k
theorem pure_law_copied (vs : List V) (H : Hp) (Q : VK) (E : XK) (h : sp_law_copied K vs H Q E) : t_law_copied K { nx := fun _ H' => Q .non H', rt := Q } (start N_law_copied vs) H := by
  obtain ⟨a, g, rt, rw', rfl, G, ok, q⟩ := h
  show tLc (iList K (tVar 0)) _ _ _ _ [some (.ref a), none, none, none] H Q
  refine lc_src (ev_var rfl) fun H1 e1 => ?_
  refine lc_rowsC (rowN g) (G.mono e1) ok.len (fun _ _ _ => rfl) (fun i hi => ev_var rfl) (fun i hi => ev_var rfl) (fun i hi => EvW.new (el_list (ev_var rfl) ((G.mono e1).way i hi))) fun p rt2 rw2 H2 hp e2 G2 => ?_
  rw [GA.copy] at G2
  exact q p rt2 rw2 H2 (fresh_back e1 hp) (e1.trans e2) G2
end
end Gp
namespace Gp
open PySem L2 Evl
local macro_rules | `(tactic| one_sign) => `(tactic| first | exact Evl.Ex.refl _ | assumption | exact Evl.Ex.new (by assumption) | (refine Evl.Ex.trans ?_ (by assumption); one_sign) | (refine Evl.Ex.trans ?_ (Evl.Ex.new (by assumption)); one_sign))
local macro_rules | `(tactic| one_place) => `(tactic| first | assumption | exact upd_same | (refine Evl.ex_l ?_ (by assumption); one_sign) | (refine Evl.ex_t ?_ (by assumption); one_sign) | (refine Evl.sq_of ?_; one_place) | (refine Evl.st_of ?_; one_place) | (refine (show Evl.Ex _ _ from ?_) _ _ (by assumption); one_sign))
local macro_rules | `(tactic| one_item) => `(tactic| first | ((with_reducible apply ev_var); rfl) | (with_reducible exact ev_c) | assumption | (refine Ev.mono ?_ (by assumption); one_sign) | ((with_reducible apply ev_op) <;> one_item) | (with_reducible exact rv_I0) | ((with_reducible refine rv_mod ?_); omega) | ((with_reducible refine rv_div ?_ ?_) <;> omega) | ((with_reducible refine rv_mulL ?_); omega) | ((with_reducible refine rv_mulR ?_); omega) | ((with_reducible refine rv_pow ?_); decide) | ((with_reducible refine rv_eq ?_); rfl) | ((with_reducible refine rv_ne ?_); rfl) | (with_reducible exact rv_isN) | (with_reducible exact rv_notN) | ((with_reducible apply rv_inI); one_place) | ((with_reducible apply rv_niI); one_place) | ((with_reducible apply rv_ixT) <;> (first | rfl | one_place)) | ((with_reducible apply ev_len) <;> (first | one_item | one_place)) | ((with_reducible apply ev_lenT) <;> (first | one_item | one_place)) | (with_reducible exact ea_nil) | ((with_reducible apply ea_cons) <;> one_item) | ((with_reducible apply et_test); one_item) | ((with_reducible apply et_B); one_item) | (with_reducible exact et_yes) | ((with_reducible apply et_not); one_item) | ((with_reducible apply ev_chain) <;> one_item) | ((with_reducible apply ev_notV); one_item))
/-! ### lists of which each item is told -/
def Keep (P : V → Hp → Prop) : Prop := ∀ x H l ys zs, P x H → H l = some (.lst ys) → P x (upd H l (.lst zs))
def LsP (H : Hp) (p : Addr) (n : Nat) (P : Nat → V → Hp → Prop) : Prop := ∃ xs : List V, H p = some (.lst xs) ∧ xs.length = n ∧ ∀ (i : Nat) v, xs[i]? = some v → P i v H
def MsV (m : Zk.Ms) : V → Hp → Prop := fun v H => (m = none ∧ v = .non) ∨ ∃ x t, m = some x ∧ v = .ref t ∧ H t = some (.tup (iv x))
def PrV (oc : Int × Int) : V → Hp → Prop := fun v H => ∃ t, v = .ref t ∧ H t = some (.tup [.int oc.1, .int oc.2])
theorem MsV.lasts {m : Zk.Ms} : Lasts (MsV m) := fun x H H' e h => by
  rcases h with h | ⟨y, t, h1, h2, h3⟩
  · exact .inl h
  · exact .inr ⟨y, t, h1, h2, e _ _ h3⟩
theorem PrV.lasts {oc : Int × Int} : Lasts (PrV oc) := fun x H H' e ⟨t, h1, h2⟩ => ⟨t, h1, e _ _ h2⟩
theorem tup_upd {H : Hp} {t l : Addr} {xs ys zs : List V} (h : H t = some (.tup xs)) (hl : H l = some (.lst ys)) : (upd H l (.lst zs)) t = some (.tup xs) := by
  rw [upd_ne (fun z => by rw [z, hl] at h; cases h)]
  exact h
theorem MsV.keep {m : Zk.Ms} : Keep (MsV m) := fun x H l ys zs h hl => by
  rcases h with h | ⟨y, t, h1, h2, h3⟩
  · exact .inl h
  · exact .inr ⟨y, t, h1, h2, tup_upd h3 hl⟩
theorem PrV.keep {oc : Int × Int} : Keep (PrV oc) := fun x H l ys zs ⟨t, h1, h2⟩ hl => ⟨t, h1, tup_upd h2 hl⟩
theorem LsP.mono {H H' : Hp} {p : Addr} {n : Nat} {P : Nat → V → Hp → Prop} (hP : ∀ i, Lasts (P i)) (h : LsP H p n P) (e : Evl.Ex H H') : LsP H' p n P := by
  obtain ⟨xs, h1, h2, h3⟩ := h
  exact ⟨xs, e _ _ h1, h2, fun i v hv => hP i v H H' e (h3 i v hv)⟩
theorem LsP.keep {H : Hp} {p l : Addr} {n : Nat} {P : Nat → V → Hp → Prop} {ys zs : List V} (hP : ∀ i, Keep (P i)) (h : LsP H p n P) (hl : H l = some (.lst ys)) (hn : p ≠ l) : LsP (upd H l (.lst zs)) p n P := by
  obtain ⟨xs, h1, h2, h3⟩ := h
  exact ⟨xs, by rw [upd_ne hn]; exact h1, h2, fun i v hv => hP i v H l ys zs (h3 i v hv) hl⟩
abbrev CsA (H : Hp) (p : Addr) (cs : Zk.CS) : Prop := LsP H p cs.length fun i => PrV (cs.getD i (0, 0))
abbrev FdA (H : Hp) (p : Addr) (f : List Zk.Ms) : Prop := LsP H p f.length fun i => MsV (f.getD i none)
theorem CsA.mono {H H' : Hp} {p : Addr} {cs : Zk.CS} (h : CsA H p cs) (e : Evl.Ex H H') : CsA H' p cs := LsP.mono (fun _ => PrV.lasts) h e
theorem FdA.mono {H H' : Hp} {p : Addr} {f : List Zk.Ms} (h : FdA H p f) (e : Evl.Ex H H') : FdA H' p f := LsP.mono (fun _ => MsV.lasts) h e
section
variable {K : PySem.W.Frag} {σ : L2.St} {H : Hp}
theorem LsP.ix {p : Addr} {n : Nat} {P : Nat → V → Hp → Prop} (h : LsP H p n P) {i : Nat} (hi : i < n) : ∃ v, P i v H ∧ ∀ {tl ti : TE} {σ : L2.St} {H' : Hp}, Evl.Ex H H' → Ev tl σ H' (.ref p) → Ev ti σ H' (.int (i : Int)) → Ev (tOp (rIxL K) tl ti) σ H' v := by
  obtain ⟨xs, h1, h2, h3⟩ := h
  subst h2
  have hx : xs[i]? = some xs[i] := List.getElem?_eq_getElem hi
  exact ⟨xs[i], h3 i _ hx, fun e ht hti => ev_op ht hti (rv_ixL (sq_of (e _ _ h1)) (atI_nat hx))⟩
theorem CsA.most {p : Addr} {cs : Zk.CS} (h : CsA H p cs) {i : Nat} (hi : i < cs.length) {tl ti : TE} {H' : Hp} (e : Evl.Ex H H') (ht : Ev tl σ H' (.ref p)) (hti : Ev ti σ H' (.int (i : Int))) : Ev (tOp (rIxT K) (tOp (rIxL K) tl ti) (tC (.int 1))) σ H' (.int (cs.getD i (0, 0)).2) ∧ Ev (tOp (rIxT K) (tOp (rIxL K) tl ti) (tC (.int 0))) σ H' (.int (cs.getD i (0, 0)).1) := by
  obtain ⟨v, ⟨t, rfl, h2⟩, h3⟩ := LsP.ix (K := K) h hi
  exact ⟨ev_op (h3 e ht hti) ev_c (rv_ixT (st_of (e _ _ h2)) rfl), ev_op (h3 e ht hti) ev_c (rv_ixT (st_of (e _ _ h2)) rfl)⟩
theorem ev_lenLs {p : Addr} {n : Nat} {P : Nat → V → Hp → Prop} (h : LsP H p n P) {tl : TE} (ht : Ev tl σ H (.ref p)) : Ev (tCB (rLenS K) (tCons tl tNil)) σ H (.int (n : Nat)) := by
  obtain ⟨xs, h1, h2, _⟩ := h
  exact Ev.to (ev_len ht (sq_of h1)) (by rw [h2])
theorem eu_tupL {ta : TE} {a : Addr} {xs : List V} (h : Ev ta σ H (.ref a)) (hs : SqL K H a xs) : EvU (tCB (rTupS K) (tCons ta tNil)) σ H xs := fun H1 e Q q =>
  h H1 e _ fun H2 e2 => ⟨a, xs, rfl, .inl ⟨ex_l (e.trans e2) hs, fun l hl => q l _ (fresh_back e2 hl) (e2.trans (Evl.Ex.new hl)) upd_same⟩⟩
/-! data -/
def dMs : Zk.Ms → PyData
  | none => .none
  | some x => .tuple (x.map .int)
theorem MsV.dp {m : Zk.Ms} {v : V} {H : Hp} (h : MsV m v H) : Dp K H v (dMs m) := by
  rcases h with ⟨rfl, rfl⟩ | ⟨x, t, rfl, rfl, h3⟩
  · exact .non
  · exact .tup (st_of h3) (dpAll_iv x)
theorem rv_gtM {u v : V} {x y : List Int} (hu : MsV (some x) u H) (hv : MsV (some y) v H) : RV (rGtD K) u v H (.bl (decide (y < x))) := fun H1 e Q q => by
  refine ⟨_, _, MsV.dp (MsV.lasts _ _ _ e hu), MsV.dp (MsV.lasts _ _ _ e hv), ?_, ?_, ?_, ?_⟩
  · show PySem.W.alike (.tuple _) (.tuple _) = true
    simpa [PySem.W.alike] using PySem.W.alike_ints x y
  · intro z; cases z
  · show (PyData.tuple (x.map .int)).depth ≤ 60
    simp [PyData.depth, PySem.W.depth_ints]
  · have : PySem.W.dataLt (dMs (some y)) (dMs (some x)) = decide (y < x) := by
      show PySem.W.dataLt (.tuple _) (.tuple _) = _
      rw [PySem.W.dataLt_tuple]
      exact PySem.W.dataLt_ints y x
    rw [this]
    exact q H1 (Evl.Ex.refl _)
theorem msv_non {m : Zk.Ms} {v : V} (h : MsV m v H) : decide (v = .non) = m.isNone := by
  rcases h with ⟨rfl, rfl⟩ | ⟨x, t, rfl, rfl, _⟩
  · rfl
  · rfl
/-! is_more -/
def sp_is_more : Sp := fun vs H Q _ => ∃ u v a b, vs = [u, v] ∧ MsV a u H ∧ MsV b v H ∧ RetV (.bl (Zk.moreM a b)) H Q
theorem pure_is_more (vs : List V) (H : Hp) (Q : VK) (E : XK) (h : sp_is_more vs H Q E) : t_is_more K { nx := fun _ H' => Q .non H', rt := Q } (start N_is_more vs) H := by
  obtain ⟨u, v, a, b, rfl, hu, hv, q⟩ := h
  have eu : ∀ H', Evl.Ex H H' → Ev (tOp rIsN (tVar 0) (tC .non)) [some u, some v] H' (.bl a.isNone) := fun H' e => Ev.to (ev_op (ev_var rfl) ev_c rv_isN) (by rw [msv_non hu])
  have ev' : ∀ H', Evl.Ex H H' → Ev (tOp rIsN (tVar 1) (tC .non)) [some u, some v] H' (.bl b.isNone) := fun H' e => Ev.to (ev_op (ev_var rfl) ev_c rv_isN) (by rw [msv_non hv])
  have ew : ∀ H', Evl.Ex H H' → Ev (tOp rNotN (tVar 1) (tC .non)) [some u, some v] H' (.bl (!b.isNone)) := fun H' e => Ev.to (ev_op (ev_var rfl) ev_c rv_notN) (by rw [msv_non hv])
  refine q_when (σ := [some u, some v]) (b := a.isNone || b.isNone) (et_or (et_test (eu H (Evl.Ex.refl _))) fun _ => et_test (ev' H (Evl.Ex.refl _))) (fun z H1 e1 => ?_) (fun z H1 e1 => ?_)
  · refine s_ret (ev_andV (eu H1 e1) fun _ => ew H1 e1) fun H2 e2 => ?_
    have : (a.isNone && !b.isNone) = Zk.moreM a b := by
      cases a <;> cases b <;> first | rfl | simp at z
    rw [this]
    exact q.go (e1.trans e2)
  · cases a with
    | none => simp at z
    | some x =>
      cases b with
      | none => simp at z
      | some y => exact s_ret (ev_op (ev_var rfl) (ev_var rfl) (rv_gtM (MsV.lasts _ _ _ e1 hu) (MsV.lasts _ _ _ e1 hv))) fun H2 e2 => q.go (e1.trans e2)
/-! behind -/
def RetM (m : Zk.Ms) (H : Hp) (Q : VK) : Prop := ∀ v H', Evl.Ex H H' → MsV m v H' → Q v H'
theorem RetM.go {m : Zk.Ms} {H H' : Hp} {Q : VK} (h : RetM m H Q) (e : Evl.Ex H H') : RetM m H' Q := fun v H2 e2 hv => h v H2 (e.trans e2) hv
def sp_behind (K : PySem.W.Frag) : Sp := fun vs H Q _ => ∃ p j v cs m, vs = [.ref p, .int j, v] ∧ CsA H p cs ∧ Zk.Dec cs ∧ cs.length ≤ 40 ∧ MsV m v H ∧ Zk.OkM cs m ∧ RetM (Zk.beh cs j m) H Q
theorem el_listSl {te th : TE} {t : Addr} {x : List Int} {n : Nat} (h : Ev te σ H (.ref t)) (ht : H t = some (.tup (iv x))) (hh : Ev th σ H (.int (n : Int))) : EvL (tCB (rListS K) (tCons (tSl (rSlA K) te tNoPart (tPart th)) tNil)) σ H (iv (x.take n)) := fun H1 e Q q =>
  h H1 e _ fun H2 e2 => hh H2 (e.trans e2) _ fun H3 e3 => ⟨(n : Int), rfl, by
    have e13 := e2.trans e3
    refine ⟨t, iv x, rfl, st_of ((e.trans e13) _ _ ht), fun hw => ?_, fun _ p hp => ?_⟩
    · have hx : iv x = iv (x.take n) := by
        have := cut_to x n
        unfold cutV at this
        rw [hw.1, hw.2, List.drop_zero, Nat.sub_zero, List.take_length] at this
        exact this
      refine ⟨t, iv x, rfl, .inr (st_of ((e.trans e13) _ _ ht)), fun l hl => ?_⟩
      rw [hx]
      exact q l _ (fresh_back e13 hl) (e13.trans (Evl.Ex.new hl)) upd_same
    · rw [cut_to]
      refine ⟨p, iv (x.take n), rfl, .inr (st_of upd_same), fun l hl => ?_⟩
      exact q l _ (fresh_back (e13.trans (Evl.Ex.new hp)) hl) ((e13.trans (Evl.Ex.new hp)).trans (Evl.Ex.new hl)) upd_same⟩
/-- a comprehension over a list of pairs -/
theorem el_lcPr {p : Addr} {cs : Zk.CS} {tl te : TE} {t : TT} {i1 i2 : Nat} {vs : List Nat} (f : Nat → Bool) (v : Nat → V) (h : Ev tl σ H (.ref p)) (hc : CsA H p cs) (hz : cs.length ≤ 40) (hw : ∀ x y, wipe (((wipe σ vs).set i1 (some x)).set i2 (some y)) vs = wipe σ vs)
    (ht : ∀ (i : Nat) H1, Evl.Ex H H1 → i < cs.length → EvT t (((wipe σ vs).set i1 (some (.int (cs.getD i (0, 0)).1))).set i2 (some (.int (cs.getD i (0, 0)).2))) H1 (f i)) (he : ∀ (i : Nat) H1, Evl.Ex H H1 → i < cs.length → f i = true → Ev te (((wipe σ vs).set i1 (some (.int (cs.getD i (0, 0)).1))).set i2 (some (.int (cs.getD i (0, 0)).2))) H1 (v i)) :
    EvL (tLc (iList K tl) (gTup K 2 (gCons (gName i1) (gCons (gName i2) gNil))) t te vs) σ H (given cs.length f v) := fun H0 e Q q => h H0 e _ fun H1 e1 => by
  obtain ⟨xs, h1, h2, h3⟩ := hc
  refine ⟨p, rfl, ⟨xs, ex_l (e.trans e1) (sq_of h1)⟩, fun Dl hD =>
    lc_list (xs := xs) (Cw H1 f v Dl) ⟨hD, Evl.Ex.new hD, upd_same⟩ (fun i H' _ p' => ex_l ((e.trans e1).trans p'.2.1) (sq_of h1)) (fun i x H' hi p' => ?_)
      (fun H' p' => q Dl H' (fresh_back e1 p'.1) (e1.trans p'.2.1) (by rw [← h2]; exact p'.2.2))⟩
  have hi' := (List.getElem?_eq_some_iff.mp hi).1
  obtain ⟨t', rfl, ht'⟩ := h3 i x hi
  exact g_pair (st_of (((e.trans e1).trans p'.2.1) _ _ ht')) ⟨hw _ _, cw_turn p' (by omega) (ht i H1 (e.trans e1) (by omega)) fun hf => he i H1 (e.trans e1) (by omega) hf⟩
theorem given_many (cs : Zk.CS) (j : Int) (v : Nat → V) : (given cs.length (fun i => decide (j ≤ (cs.getD i (0, 0)).1)) v).length = Zk.many cs j := by
  unfold given Zk.many
  rw [List.length_map]
  have : ∀ cs : Zk.CS, ((List.range cs.length).filter fun i => decide (j ≤ (cs.getD i (0, 0)).1)).length = (cs.filter fun oc => decide (j ≤ oc.1)).length := by
    intro cs
    induction cs with
    | nil => rfl
    | cons a r ih =>
      rw [List.length_cons, List.range_succ_eq_map, List.filter_cons, List.filter_map, List.filter_cons]
      have e : ((fun i => decide (j ≤ ((a :: r).getD i (0, 0)).1)) ∘ Nat.succ) = fun i => decide (j ≤ (r.getD i (0, 0)).1) := rfl
      rw [e]
      show (if decide (j ≤ a.1) = true then _ else _ : List Nat).length = (if decide (j ≤ a.1) = true then _ else _ : List (Int × Int)).length
      split
      · rw [List.length_cons, List.length_cons, List.length_map, ih]
      · rw [List.length_map, ih]
  exact this cs
theorem q_augL {D : Ends} {tz : TS} {to ti te : TE} {f : Int → Int → Int} {l : Addr} {ns : List Int} {j : Nat} {b : Int} (hl : H l = some (.lst (iv ns))) (ho : Ev to σ H (.ref l)) (hi : Ev ti σ H (.int (j : Int))) (he : Ev te σ H (.int b)) (hj : j < ns.length) (k : ∀ H1, Evl.Ex H H1 → tz D σ (upd H1 l (.lst (iv (ns.set j (f (ns.getD j 0) b)))))) :
    tSeq (tAugS to ti te (rGetL K) (ipI f) rSetL) tz D σ H :=
  ho H (Evl.Ex.refl H) _ fun H1 e1 => hi H1 e1 _ fun H2 e2 => ⟨l, iv ns, (j : Int), .int (ns.getD j 0), rfl, rfl, sq_of ((e1.trans e2) _ _ hl), by omega, by
    rw [Int.toNat_natCast]
    unfold iv
    rw [List.getElem?_map]
    simp [hj], he H2 (e1.trans e2) _ fun H3 e3 => ⟨_, _, rfl, rfl, l, iv ns, (j : Int), j, rfl, rfl, ((e1.trans e2).trans e3) _ _ hl, ixN_nat (by rw [List.length_map]; exact hj), by
      have := k H3 ((e1.trans e2).trans e3)
      unfold iv at this ⊢
      rw [List.map_set] at this
      exact this⟩⟩
theorem iv_set (ns : List Int) (j : Nat) (b : Int) : (iv ns).set j (.int b) = iv (ns.set j b) := by
  unfold iv
  rw [List.map_set]
end
end Gp
namespace Gp
open PySem L2 Evl
local macro_rules | `(tactic| one_sign) => `(tactic| first | exact Evl.Ex.refl _ | assumption | exact Evl.Ex.new (by assumption) | (refine Evl.Ex.trans ?_ (by assumption); one_sign) | (refine Evl.Ex.trans ?_ (Evl.Ex.new (by assumption)); one_sign))
local macro_rules | `(tactic| one_place) => `(tactic| first | assumption | exact upd_same | (refine Evl.ex_l ?_ (by assumption); one_sign) | (refine Evl.ex_t ?_ (by assumption); one_sign) | (refine Evl.sq_of ?_; one_place) | (refine Evl.st_of ?_; one_place) | (refine (show Evl.Ex _ _ from ?_) _ _ (by assumption); one_sign))
local macro_rules | `(tactic| one_item) => `(tactic| first | ((with_reducible apply ev_var); rfl) | (with_reducible exact ev_c) | assumption | (refine Ev.mono ?_ (by assumption); one_sign) | ((with_reducible apply ev_op) <;> one_item) | (with_reducible exact rv_I0) | ((with_reducible refine rv_mod ?_); omega) | ((with_reducible refine rv_div ?_ ?_) <;> omega) | ((with_reducible refine rv_mulL ?_); omega) | ((with_reducible refine rv_mulR ?_); omega) | ((with_reducible refine rv_pow ?_); decide) | ((with_reducible refine rv_eq ?_); rfl) | ((with_reducible refine rv_ne ?_); rfl) | (with_reducible exact rv_isN) | (with_reducible exact rv_notN) | ((with_reducible apply rv_inI); one_place) | ((with_reducible apply rv_niI); one_place) | ((with_reducible apply rv_ixT) <;> (first | rfl | one_place)) | ((with_reducible apply ev_len) <;> (first | one_item | one_place)) | ((with_reducible apply ev_lenT) <;> (first | one_item | one_place)) | (with_reducible exact ea_nil) | ((with_reducible apply ea_cons) <;> one_item) | ((with_reducible apply et_test); one_item) | ((with_reducible apply et_B); one_item) | (with_reducible exact et_yes) | ((with_reducible apply et_not); one_item) | ((with_reducible apply ev_chain) <;> one_item) | ((with_reducible apply ev_notV); one_item))
section
variable {K : PySem.W.Frag}
theorem s_retVU {σ : L2.St} {H : Hp} {D : Ends} {te tx : TE} {v : V} {xs : List V} (h1 : Ev te σ H v) (h2 : EvU tx σ H xs) (k : ∀ t p H2, Evl.Ex H H2 → H2 t = some (.tup xs) → H2 p = some (.tup [v, .ref t]) → D.rt (.ref p) H2) : tRet (tTup (tCons te (tCons tx tNil))) D σ H :=
  h1 H (Evl.Ex.refl H) _ fun H1 e1 => h2 H1 e1 _ fun t H2 ht e2 ht2 => ⟨by show 2 ≤ sizeLine; decide, fun p hp => k t p _ ((e1.trans e2).trans (Evl.Ex.new hp)) ((Evl.Ex.new hp) _ _ ht2) upd_same⟩
theorem msv_some {x : List Int} {t : Addr} {H : Hp} (h : H t = some (.tup (iv x))) : MsV (some x) (.ref t) H := .inr ⟨x, t, rfl, rfl, h⟩
theorem pure_behind (vs : List V) (H : Hp) (Q : VK) (E : XK) (h : sp_behind K vs H Q E) : t_behind K { nx := fun _ H' => Q .non H', rt := Q } (start N_behind vs) H := by
  obtain ⟨p, j, v, cs, m, rfl, C, dec, l40, hv, ok, q⟩ := h
  refine q_when (σ := [some (.ref p), some (.int j), some v, none, none, none, none, none]) (b := m.isNone) (et_test (Ev.to (ev_op (ev_var rfl) ev_c rv_isN) (by rw [msv_non hv]))) (fun z H1 e1 => ?_) (fun z H1 e1 => ?_)
  · cases m with
    | some x => cases z
    | none => exact s_ret ev_c fun H2 e2 => q _ _ (e1.trans e2) (.inl ⟨rfl, rfl⟩)
  rcases hv with ⟨rfl, _⟩ | ⟨x, t, rfl, rfl, ht⟩
  · cases z
  have okx : Zk.OkL cs x := ok
  have xl := okx.len
  clear z
  have C1 := C.mono e1
  have ml := Zk.many_le cs j
  refine q_asg (σ := [some (.ref p), some (.int j), some (.ref t), none, none, none, none, none]) (v := .int (Zk.many cs j : Nat)) (Ev.to (ev_lenN (el_lcPr (fun i => decide (j ≤ (cs.getD i (0, 0)).1)) (fun i => .int (cs.getD i (0, 0)).1) (ev_var rfl) C1 l40 (fun _ _ => rfl) (fun i H2 e2 hi => et_test (ev_op (ev_var rfl) (ev_var rfl) rv_I0)) fun i H2 e2 hi _ => ev_var rfl)) (by rw [given_many])) fun H2 e2 => ?_
  have e02 := e1.trans e2
  have C2 := C1.mono e2
  have et := Zk.tru_take (j := j) dec xl
  refine q_asgL (σ := [some (.ref p), some (.int j), some (.ref t), some (.int (Zk.many cs j : Nat)), none, none, none, none]) (EvL.to (el_cat (el_listSl (ev_var rfl) (e02 _ _ ht) (ev_var rfl)) (el_rep (l := 0) (k' := 0) (k := (cs.length : Int) - (Zk.many cs j : Nat)) (el_lst (vs := [.int 0]) (by one_item) (by simp)) (ev_op (ev_lenLs C2 (ev_var rfl)) (ev_var rfl) rv_I0) (by omega) (by omega)) (by rw [List.length_map, List.length_replicate, List.length_take]; omega)) (ys := iv (Zk.truL j cs x)) (by
    rw [et]
    unfold iv
    rw [List.map_append, List.map_replicate]
    congr 2
    omega)) fun F H3 hF e3 hF3 => ?_
  have e03 := e02.trans e3
  have hF0 := fresh_back e02 hF
  refine q_when (σ := [some (.ref p), some (.int j), some (.ref t), some (.int (Zk.many cs j : Nat)), some (.ref F), none, none, none]) (b := decide (j % 2 = 0)) (et_test (Ev.to (ev_op (ev_op (ev_var rfl) ev_c (rv_mod (by omega))) ev_c (rv_eq rfl)) (by simp))) (fun z H4 e4 => ?_) (fun z H4 e4 => ?_)
  · refine s_retU (eu_tupL (ev_var rfl) (sq_of (e4 _ _ hF3))) fun t' H5 ht' e5 h5 => q _ _ (e03.trans (e4.trans e5)) ?_
    have : Zk.beh cs j (some x) = some (Zk.truL j cs x) := if_pos (of_decide_eq_true z)
    rw [this]
    exact msv_some h5
  have eb : Zk.beh cs j (some x) = Zk.incD cs (Zk.many cs j) (Zk.truL j cs x) := if_neg (of_decide_eq_false z)
  rw [eb] at q
  clear eb et z
  refine q_asg (σ := [some (.ref p), some (.int j), some (.ref t), some (.int (Zk.many cs j : Nat)), some (.ref F), none, none, none]) (v := .int ((Zk.many cs j : Nat) - 1)) (ev_op (ev_var rfl) ev_c rv_I0) fun H5 e5 => ?_
  have e05 := e03.trans (e4.trans e5)
  refine q_while (fun n σ H' => ∃ (y : List Int) (a : Int), a = (n : Int) - 1 ∧ σ = [some (.ref p), some (.int j), some (.ref t), some (.int (Zk.many cs j : Nat)), some (.ref F), some (.int a), none, none] ∧ Evl.Ex H H' ∧ H' F = some (.lst (iv y)) ∧ Zk.OkL cs y ∧ Zk.incD cs (Zk.many cs j) (Zk.truL j cs x) = Zk.incD cs n y ∧ n ≤ cs.length) (Zk.many cs j)
    ⟨_, _, rfl, rfl, e05, (e4.trans e5) _ _ hF3, Zk.tru_ok okx, rfl, ml⟩ fun n σ H6 hw => ?_
  obtain ⟨y, a, ha, rfl, e6, hF6, oky, ey, nl⟩ := hw
  refine ⟨decide ((0 : Int) ≤ a), et_test (ev_op (ev_var rfl) ev_c rv_I0), fun z H7 e7 => ?_, fun z H7 e7 => ?_⟩
  · have z' := of_decide_eq_true z
    obtain ⟨k, rfl⟩ : ∃ k, n = k + 1 := ⟨n - 1, by omega⟩
    have ak : a = (k : Int) := by omega
    subst ak
    have yl := oky.len
    have e07 := e6.trans e7
    have C7 := C.mono e07
    refine ⟨fun σ H' => ∃ (y : List Int) (a : Int), a = (k : Int) - 1 ∧ σ = [some (.ref p), some (.int j), some (.ref t), some (.int (Zk.many cs j : Nat)), some (.ref F), some (.int a), none, none] ∧ Evl.Ex H H' ∧ H' F = some (.lst (iv y)) ∧ Zk.OkL cs y ∧ Zk.incD cs (Zk.many cs j) (Zk.truL j cs x) = Zk.incD cs k y ∧ k ≤ cs.length, fun σ2 H2 h => ⟨k, by omega, h⟩, ?_⟩
    have at4 : Ev (tOp (rIxL K) (tVar 4) (tVar 5)) [some (.ref p), some (.int j), some (.ref t), some (.int (Zk.many cs j : Nat)), some (.ref F), some (.int (k : Int)), none, none] H7 (.int (y.getD k 0)) := Ev.to (ev_op (ev_var rfl) (ev_var rfl) (rv_ixI (sq_of (e7 _ _ hF6)) (by omega) (by omega))) (by rw [Int.toNat_natCast])
    refine q_when (σ := [some (.ref p), some (.int j), some (.ref t), some (.int (Zk.many cs j : Nat)), some (.ref F), some (.int (k : Int)), none, none]) (b := decide (y.getD k 0 < (cs.getD k (0, 0)).2)) (et_test (ev_op at4 (CsA.most C7 (by omega) (Evl.Ex.refl _) (ev_var rfl) (ev_var rfl)).1 rv_I0)) (fun w H8 e8 => ?_) (fun w H8 e8 => ?_)
    · refine q_augL (σ := [some (.ref p), some (.int j), some (.ref t), some (.int (Zk.many cs j : Nat)), some (.ref F), some (.int (k : Int)), none, none]) (f := fun i j => i + j) (b := 1) (e8 _ _ (e7 _ _ hF6)) (ev_var rfl) (ev_var rfl) ev_c (by omega) fun H9 e9 => ?_
      refine s_retU (eu_tupL (ev_var rfl) (sq_of upd_same)) fun t' H10 ht' e10 h10 => q _ _ ((Evl.Ex.mut ((e07.trans e8).trans e9) hF0).trans e10) ?_
      have : Zk.incD cs (k + 1) y = some (y.set k (y.getD k 0 + 1)) := if_pos (of_decide_eq_true w)
      rw [ey, this]
      exact msv_some h10
    · have ei : Zk.incD cs (k + 1) y = Zk.incD cs k (y.set k 0) := if_neg (of_decide_eq_false w)
      refine q_setL (σ := [some (.ref p), some (.int j), some (.ref t), some (.int (Zk.many cs j : Nat)), some (.ref F), some (.int (k : Int)), none, none]) (v := .int 0) (e8 _ _ (e7 _ _ hF6)) ev_c (ev_var rfl) (ev_var rfl) (by rw [List.length_map]; omega) fun H9 e9 => ?_
      have g := Zk.okL_get oky (k := k) (by omega)
      refine s_aug (a := (k : Int)) (b := 1) rfl ev_c fun H10 e10 => ⟨y.set k 0, (k : Int) - 1, rfl, rfl, (Evl.Ex.mut ((e07.trans e8).trans e9) hF0).trans e10, e10 _ _ (by rw [upd_same, iv_set]), Zk.okL_set oky (by omega) (Int.le_refl _) (by omega), by rw [ey, ei], by omega⟩
  · have z' := of_decide_eq_false z
    have : n = 0 := by omega
    subst this
    refine s_ret ev_c fun H8 e8 => q _ _ (e6.trans (e7.trans e8)) ?_
    rw [ey]
    exact .inl ⟨rfl, rfl⟩
/-! the law's ranks -/
def RkV (m : Zk.Ms) : V → Hp → Prop := fun v H => ∃ r y k, v = .ref r ∧ H r = some (.tup [.int k, y]) ∧ ((m = none ∧ k = 1 ∧ ∃ t, y = .ref t ∧ H t = some (.tup [])) ∨ (k = 0 ∧ MsV m y H ∧ m ≠ none))
theorem RkV.lasts {m : Zk.Ms} : Lasts (RkV m) := fun x H H' e ⟨r, y, k, h1, h2, h3⟩ => ⟨r, y, k, h1, e _ _ h2, by
  rcases h3 with ⟨a, b, t, c, d⟩ | ⟨a, b, c⟩
  · exact .inl ⟨a, b, t, c, e _ _ d⟩
  · exact .inr ⟨a, MsV.lasts _ _ _ e b, c⟩⟩
theorem RkV.keep {m : Zk.Ms} : Keep (RkV m) := fun x H l ys zs ⟨r, y, k, h1, h2, h3⟩ hl => ⟨r, y, k, h1, tup_upd h2 hl, by
  rcases h3 with ⟨a, b, t, c, d⟩ | ⟨a, b, c⟩
  · exact .inl ⟨a, b, t, c, tup_upd d hl⟩
  · exact .inr ⟨a, MsV.keep _ _ _ _ _ b hl, c⟩⟩
def dRk : Zk.Ms → PyData
  | none => .tuple [.int 1, .tuple []]
  | some x => .tuple [.int 0, .tuple (x.map .int)]
theorem RkV.dp {m : Zk.Ms} {v : V} {H : Hp} (h : RkV m v H) : Dp K H v (dRk m) := by
  obtain ⟨r, y, k, rfl, h2, ⟨rfl, rfl, t, rfl, d⟩ | ⟨rfl, h, hn⟩⟩ := h
  · exact .tup (st_of h2) (.cons (.int 1) (.cons (.tup (st_of d) .nil) .nil))
  · cases m with
    | none => exact absurd rfl hn
    | some x => exact .tup (st_of h2) (.cons (.int 0) (.cons (MsV.dp h) .nil))
theorem alike_rk (a b : Zk.Ms) : PySem.W.alike (dRk a) (dRk b) = true := by
  cases a with
  | none => cases b <;> simp [dRk, PySem.W.alike, PySem.W.alikeAll]
  | some x =>
    cases b with
    | none =>
      cases x <;> simp [dRk, PySem.W.alike, PySem.W.alikeAll]
    | some y =>
      have := PySem.W.alike_ints x y
      simp [dRk, PySem.W.alike, PySem.W.alikeAll, this]
theorem depth_rk (a : Zk.Ms) : (dRk a).depth ≤ 60 := by
  cases a with
  | none => simp [dRk, PyData.depth, PyData.depthAll]
  | some x =>
    have := PySem.W.depth_ints x
    simp [dRk, PyData.depth, PyData.depthAll, this]
theorem lt_rk {cs : Zk.CS} {a b : Zk.Ms} (ha : Zk.OkM cs a) (hb : Zk.OkM cs b) : PySem.W.dataLt (dRk a) (dRk b) = decide (Zk.code cs a < Zk.code cs b) := by
  cases a with
  | none =>
    cases b with
    | none =>
      show PySem.W.dataLt (.tuple [.int 1, .tuple []]) (.tuple [.int 1, .tuple []]) = _
      rw [PySem.W.dataLt_pair (by simp [PySem.W.alike]) (by simp [PySem.W.alike, PySem.W.alikeAll])]
      simp [PyData.eqv, PyData.eqvAll]
    | some y =>
      show PySem.W.dataLt (.tuple [.int 1, .tuple []]) (.tuple [.int 0, .tuple _]) = _
      rw [PySem.W.dataLt_pair (by simp [PySem.W.alike]) (by simp [PySem.W.alike, PySem.W.alikeAll]), PySem.W.dataLt_int]
      have := Zk.valL_lt hb
      have : ¬ Zk.wt cs < Zk.valL cs y := by omega
      simp [PyData.eqv, Zk.code, this]
  | some x =>
    cases b with
    | none =>
      show PySem.W.dataLt (.tuple [.int 0, .tuple _]) (.tuple [.int 1, .tuple []]) = _
      rw [PySem.W.dataLt_pair (by simp [PySem.W.alike]) (by cases x <;> simp [PySem.W.alike, PySem.W.alikeAll]), PySem.W.dataLt_int]
      have := Zk.valL_lt ha
      simp [PyData.eqv, Zk.code, this]
    | some y =>
      have al : PySem.W.alike (.tuple (x.map .int)) (.tuple (y.map .int)) = true := by
        simpa [PySem.W.alike] using PySem.W.alike_ints x y
      show PySem.W.dataLt (.tuple [.int 0, .tuple _]) (.tuple [.int 0, .tuple _]) = _
      rw [PySem.W.dataLt_pair (by simp [PySem.W.alike]) al]
      have e1 : PySem.W.dataLt (.tuple (x.map .int)) (.tuple (y.map .int)) = decide (x < y) := by
        rw [PySem.W.dataLt_tuple]
        exact PySem.W.dataLt_ints x y
      have e2 : decide (x < y) = decide (Zk.code cs (some x) < Zk.code cs (some y)) := decide_eq_decide.mpr (Zk.valL_lex ha hb)
      rw [e1, e2]
      by_cases c : PyData.eqv (.tuple (x.map .int)) (.tuple (y.map .int)) = true
      · have : x = y := by
          have h2 : ∀ x y : List Int, PyData.eqvAll (x.map .int) (y.map .int) = true → x = y := by
            intro x
            induction x with
            | nil => intro y h; cases y with
              | nil => rfl
              | cons a r => simp [PyData.eqvAll] at h
            | cons a r ih => intro y h; cases y with
              | nil => simp [PyData.eqvAll] at h
              | cons b s =>
                simp [PyData.eqvAll, PyData.eqv] at h
                rw [h.1, ih s h.2]
          exact h2 x y c
        subst this
        simp [c]
        simp [PyData.eqv]
      · rw [if_pos (by simp [PyData.eqv]), if_neg c]
def sp_law_rank (K : PySem.W.Frag) : Sp := fun vs H Q _ => ∃ v m, vs = [v] ∧ MsV m v H ∧ ∀ x H', Evl.Ex H H' → RkV m x H' → Q x H'
theorem pure_law_rank (vs : List V) (H : Hp) (Q : VK) (E : XK) (h : sp_law_rank K vs H Q E) : t_law_rank K { nx := fun _ H' => Q .non H', rt := Q } (start N_law_rank vs) H := by
  obtain ⟨v, m, rfl, hv, q⟩ := h
  refine q_when (σ := [some v]) (b := m.isNone) (et_test (Ev.to (ev_op (ev_var rfl) ev_c rv_isN) (by rw [msv_non hv]))) (fun z H1 e1 => ?_) (fun z H1 e1 => ?_)
  · cases m with
    | some x => cases z
    | none =>
      exact s_retVU (σ := [some v]) (ev_c : Ev (tC (.int 1)) [some v] H1 (.int 1)) (eu_tup (vs := []) ea_nil (by simp)) fun t p H2 e2 ht hp => q _ _ (e1.trans e2) ⟨p, .ref t, 1, rfl, hp, .inl ⟨rfl, rfl, t, rfl, ht⟩⟩
  · cases m with
    | none => cases z
    | some x => exact s_retU (eu_tup (vs := [.int 0, v]) (by one_item) (by simp)) fun p H2 hp e2 h2 => q _ _ (e1.trans e2) ⟨p, v, 0, rfl, h2, .inr ⟨rfl, MsV.lasts _ _ _ (e1.trans e2) hv, fun z => by cases z⟩⟩
end
end Gp
namespace Zk
theorem tru_getD (j : Int) : ∀ {cs : CS} {x : List Int} {k : Nat}, x.length = cs.length → k < cs.length → (truL j cs x).getD k 0 = x.getD k 0 * (if j ≤ (cs.getD k (0, 0)).1 then 1 else 0)
  | [], _, k, _, h => by simp at h
  | (o, c) :: r, a :: x, 0, hl, _ => by
    show (if j ≤ o then a else 0) = a * (if j ≤ o then 1 else 0)
    split <;> simp
  | (o, c) :: r, a :: x, k + 1, hl, hk => tru_getD j (cs := r) (x := x) (k := k) (by simpa using hl) (by simpa using hk)
  | (_, _) :: _, [], _, hl, _ => by simp at hl
theorem tru_len (j : Int) : ∀ {cs : CS} {x : List Int}, x.length = cs.length → (truL j cs x).length = cs.length
  | [], [], _ => rfl
  | (o, c) :: r, a :: x, hl => by
    show (truL j r x).length + 1 = r.length + 1
    rw [tru_len j (cs := r) (by simpa using hl)]
  | [], _ :: _, hl => by simp at hl
  | (_, _) :: _, [], hl => by simp at hl
theorem idx_many {j : Int} : ∀ {cs : CS} {k : Nat}, Dec cs → k < cs.length → (j ≤ (cs.getD k (0, 0)).1 ↔ k < many cs j)
  | [], k, _, h => by simp at h
  | (o, c) :: r, k, hd, hk => by
    by_cases h : o < j
    · have sm := small_of hd h
      rw [many_small sm]
      have hm : ((o, c) :: r).getD k (0, 0) ∈ (o, c) :: r := by
        rw [List.getD, List.getElem?_eq_getElem hk]
        exact List.getElem_mem hk
      have := sm _ hm
      omega
    · rw [many_cons h]
      cases k with
      | zero =>
        show j ≤ o ↔ _
        omega
      | succ k =>
        have := idx_many (j := j) (cs := r) (k := k) (List.pairwise_cons.mp hd).2 (by simpa using hk)
        show j ≤ (r.getD k (0, 0)).1 ↔ _
        omega
end Zk
namespace Gp
open PySem L2 Evl
local macro_rules | `(tactic| one_sign) => `(tactic| first | exact Evl.Ex.refl _ | assumption | exact Evl.Ex.new (by assumption) | (refine Evl.Ex.trans ?_ (by assumption); one_sign) | (refine Evl.Ex.trans ?_ (Evl.Ex.new (by assumption)); one_sign))
local macro_rules | `(tactic| one_place) => `(tactic| first | assumption | exact upd_same | (refine Evl.ex_l ?_ (by assumption); one_sign) | (refine Evl.ex_t ?_ (by assumption); one_sign) | (refine Evl.sq_of ?_; one_place) | (refine Evl.st_of ?_; one_place) | (refine (show Evl.Ex _ _ from ?_) _ _ (by assumption); one_sign))
local macro_rules | `(tactic| one_item) => `(tactic| first | ((with_reducible apply ev_var); rfl) | (with_reducible exact ev_c) | assumption | (refine Ev.mono ?_ (by assumption); one_sign) | ((with_reducible apply ev_op) <;> one_item) | (with_reducible exact rv_I0) | ((with_reducible refine rv_mod ?_); omega) | ((with_reducible refine rv_div ?_ ?_) <;> omega) | ((with_reducible refine rv_mulL ?_); omega) | ((with_reducible refine rv_mulR ?_); omega) | ((with_reducible refine rv_pow ?_); decide) | ((with_reducible refine rv_eq ?_); rfl) | ((with_reducible refine rv_ne ?_); rfl) | (with_reducible exact rv_isN) | (with_reducible exact rv_notN) | ((with_reducible apply rv_inI); one_place) | ((with_reducible apply rv_niI); one_place) | ((with_reducible apply rv_ixT) <;> (first | rfl | one_place)) | ((with_reducible apply ev_len) <;> (first | one_item | one_place)) | ((with_reducible apply ev_lenT) <;> (first | one_item | one_place)) | (with_reducible exact ea_nil) | ((with_reducible apply ea_cons) <;> one_item) | ((with_reducible apply et_test); one_item) | ((with_reducible apply et_B); one_item) | (with_reducible exact et_yes) | ((with_reducible apply et_not); one_item) | ((with_reducible apply ev_chain) <;> one_item) | ((with_reducible apply ev_notV); one_item))
section
variable {K : PySem.W.Frag} {σ : L2.St} {H : Hp}
theorem cut_from (ns : List Int) (n : Nat) (h : n ≤ ns.length) : cutV (iv ns) (some (n : Int)) none = iv (ns.drop n) := by
  unfold cutV
  rw [HT.sIx_none, HT.sIx_nat, List.length_map]
  unfold iv
  rw [← List.map_drop, ← List.map_take]
  congr 1
  rw [Nat.min_eq_left h]
  exact List.take_of_length_le (by rw [List.length_drop]; exact Nat.le_refl _)
theorem eu_tupN {tl : TE} {xs : List V} (h : EvL tl σ H xs) : EvU (tCB (rTupS K) (tCons tl tNil)) σ H xs := fun H1 e Q q => h H1 e _ fun p H2 hp e2 h2 => ⟨p, xs, rfl, .inl ⟨sq_of h2, fun l hl => q l _ (fresh_back e2 hl) (e2.trans (Evl.Ex.new hl)) upd_same⟩⟩
/-- for j in range(i, -1, -1) -/
theorem q_forDown {D : Ends} {tz tu : TS} {ta : TA} {j : Nat} {n : Nat} (h : EvA ta σ H [.int ((n : Int) - 1), .int (-1), .int (-1)]) (hn : n ≤ 100000) (Pv : Nat → L2.St → Hp → Prop) (h0 : ∀ H1, Evl.Ex H H1 → Pv 0 σ H1)
    (hs : ∀ (i : Nat) σ' H', i < n → Pv i σ' H' → tu { D with nx := Pv (i + 1), ct := Pv (i + 1), bk := tz D } (σ'.set j (some (.int ((n - 1 - i : Nat) : Int)))) H') (hd : ∀ σ' H', Pv n σ' H' → tz D σ' H') : tSeq (tFor (iRng3 ta) (gName j) tu) tz D σ H :=
  h H (Evl.Ex.refl H) _ fun H1 e => ⟨(n : Int) - 1, -1, -1, n, rfl, by
    have r := RgC.neg (i := (n : Int) - 1) (j := -1) (by omega) (by omega) (by omega) (by omega)
    have e : ((n : Int) - 1 - (-1)).toNat = n := by omega
    rw [e] at r
    exact r, for_rangeC (lo := (n : Int) - 1) (c := -1) (n := n) (g := gName j) (D := { D with nx := tz D }) Pv (h0 H1 e) (fun i σ' H' hi p => by
    have e0 : ((n : Int) - 1 + (i : Nat) * (-1 : Int)) = ((n - 1 - i : Nat) : Int) := by omega
    rw [e0]
    exact hs i σ' H' hi p) hd⟩
theorem pure_law_wanted (vs : List V) (H : Hp) (Q : VK) (E : XK) (h : sp_behind K vs H Q E) : t_law_wanted K { nx := fun _ H' => Q .non H', rt := Q } (start N_law_wanted vs) H := by
  obtain ⟨p, j, v, cs, m, rfl, C, dec, l40, hv, ok, q⟩ := h
  refine q_when (σ := [some (.ref p), some (.int j), some v, none, none]) (b := m.isNone) (et_test (Ev.to (ev_op (ev_var rfl) ev_c rv_isN) (by rw [msv_non hv]))) (fun z H1 e1 => ?_) (fun z H1 e1 => ?_)
  · cases m with
    | some x => cases z
    | none => exact s_ret ev_c fun H2 e2 => q _ _ (e1.trans e2) (.inl ⟨rfl, rfl⟩)
  rcases hv with ⟨rfl, _⟩ | ⟨x, t, rfl, rfl, ht⟩
  · cases z
  have okx : Zk.OkL cs x := ok
  have xl := okx.len
  clear z
  have C1 := C.mono e1
  have ml := Zk.many_le cs j
  have tl := Zk.tru_len j xl
  refine q_asgL (σ := [some (.ref p), some (.int j), some (.ref t), none, none]) (el_lst ea_nil (by decide)) fun F H2 hF e2 hF2 => ?_
  have e02 := e1.trans e2
  have hF0 := fresh_back e1 hF
  refine q_forR1 (σ := [some (.ref p), some (.int j), some (.ref t), some (.ref F), none]) (n := (cs.length : Nat)) (ea_cons (ev_lenLs (C1.mono e2) (ev_var rfl)) ea_nil) (by omega)
    (fun i σ H' => (∃ u, σ = [some (.ref p), some (.int j), some (.ref t), some (.ref F), u]) ∧ Evl.Ex H H' ∧ H' F = some (.lst (iv ((Zk.truL j cs x).take i))))
    (fun H3 e3 => ⟨⟨none, rfl⟩, e02.trans e3, e3 _ _ hF2⟩) (fun i σ H3 hi p3 => ?_) (fun σ H3 p3 => ?_)
  · obtain ⟨⟨u, rfl⟩, e3, hF3⟩ := p3
    have hi' : i < cs.length := by omega
    have hx : (iv x)[i]? = some (.int (x.getD i 0)) := by
      unfold iv
      rw [List.getElem?_map]
      simp [show i < x.length by omega]
    refine s_app (σ := [some (.ref p), some (.int j), some (.ref t), some (.ref F), some (.int (i : Int))]) (v := .int ((Zk.truL j cs x).getD i 0)) hF3 (ev_var rfl) ?_ (by rw [List.length_map, List.length_take]; omega) fun H4 e4 => ⟨⟨_, rfl⟩, Evl.Ex.mut (e3.trans e4) hF0, ?_⟩
    · rw [Zk.tru_getD j xl hi']
      have eb : Ev (tCB rInt1 (tCons (tOp rGe (tOp (rIxT K) (tOp (rIxL K) (tVar 0) (tVar 4)) (tC (.int 0))) (tVar 1)) tNil)) [some (.ref p), some (.int j), some (.ref t), some (.ref F), some (.int (i : Int))] H3 (.int (if j ≤ (cs.getD i (0, 0)).1 then 1 else 0)) := Ev.to (ev_intB (ev_op (CsA.most (C.mono e3) hi' (Evl.Ex.refl _) (ev_var rfl) (ev_var rfl)).2 (ev_var rfl) rv_I0)) (by
        by_cases c : j ≤ (cs.getD i (0, 0)).1 <;> simp [c])
      exact ev_op (ev_op (ev_var rfl) (ev_var rfl) (rv_ixT (st_of (e3 _ _ ht)) (atI_nat hx))) eb (rv_mulR (by split <;> decide))
    · rw [upd_same]
      have hg : (Zk.truL j cs x)[i]? = some ((Zk.truL j cs x).getD i 0) := by simp [List.getD, show i < (Zk.truL j cs x).length by omega]
      rw [take_succ_of hg]
      unfold iv
      rw [List.map_append]
      rfl
  obtain ⟨⟨u, rfl⟩, e3, hF3⟩ := p3
  rw [Int.toNat_natCast, List.take_of_length_le (by omega)] at hF3
  refine q_when (σ := [some (.ref p), some (.int j), some (.ref t), some (.ref F), u]) (b := decide (j % 2 = 0)) (et_test (Ev.to (ev_op (ev_op (ev_var rfl) ev_c (rv_mod (by omega))) ev_c (rv_eq rfl)) (by simp))) (fun z H4 e4 => ?_) (fun z H4 e4 => ?_)
  · refine s_retU (eu_tupL (ev_var rfl) (sq_of (e4 _ _ hF3))) fun t' H5 ht' e5 h5 => q _ _ (e3.trans (e4.trans e5)) ?_
    have : Zk.beh cs j (some x) = some (Zk.truL j cs x) := if_pos (of_decide_eq_true z)
    rw [this]
    exact msv_some h5
  have eb : Zk.beh cs j (some x) = Zk.incD cs (Zk.many cs j) (Zk.truL j cs x) := if_neg (of_decide_eq_false z)
  rw [eb] at q
  clear eb z
  have neg1 : ∀ (σ : L2.St) (H' : Hp), Ev (tUn rNeg (tC (.int 1))) σ H' (.int (-1)) := fun σ H' => ev_un ev_c ru_neg
  refine q_forDown (σ := [some (.ref p), some (.int j), some (.ref t), some (.ref F), u]) (n := cs.length) (ea_cons (ev_op (ev_lenLs (C.mono (e3.trans e4)) (ev_var rfl)) ev_c rv_I0) (ea_cons (neg1 _ _) (ea_cons (neg1 _ _) ea_nil))) (by omega)
    (fun i σ H' => ∃ (y : List Int) (u : Option V), σ = [some (.ref p), some (.int j), some (.ref t), some (.ref F), u] ∧ Evl.Ex H H' ∧ H' F = some (.lst (iv y)) ∧ Zk.OkL cs y ∧ Zk.incD cs (Zk.many cs j) (Zk.truL j cs x) = Zk.incD cs (min (Zk.many cs j) (cs.length - i)) y)
    (fun H5 e5 => ⟨_, u, rfl, e3.trans (e4.trans e5), (e4.trans e5) _ _ hF3, Zk.tru_ok okx, by rw [Nat.sub_zero, Nat.min_eq_left ml]⟩) (fun i σ H5 hi p5 => ?_) (fun σ H5 p5 => ?_)
  · obtain ⟨y, u, rfl, e5, hF5, oky, ey⟩ := p5
    have yl := oky.len
    obtain ⟨k, hk⟩ : ∃ k, k = cs.length - 1 - i := ⟨_, rfl⟩
    rw [← hk]
    have kl : k < cs.length := by omega
    have C5 := C.mono e5
    have im := Zk.idx_many (j := j) dec kl
    have cm := fun H' (e : Evl.Ex H5 H') => CsA.most (K := K) (σ := [some (.ref p), some (.int j), some (.ref t), some (.ref F), some (.int (k : Int))]) (tl := tVar 0) (ti := tVar 4) C5 kl e (ev_var rfl) (ev_var rfl)
    refine s_when (σ := [some (.ref p), some (.int j), some (.ref t), some (.ref F), some (.int (k : Int))]) (b := decide (j ≤ (cs.getD k (0, 0)).1)) (et_test (ev_op (cm _ (Evl.Ex.refl _)).2 (ev_var rfl) rv_I0)) (fun z H6 e6 => ?_) (fun z H6 e6 => ?_)
    · have km := im.mp (of_decide_eq_true z)
      have er : min (Zk.many cs j) (cs.length - i) = k + 1 := by omega
      have er2 : min (Zk.many cs j) (cs.length - (i + 1)) = k := by omega
      rw [er] at ey
      have at3 : ∀ H', Evl.Ex H5 H' → H' F = some (.lst (iv y)) → Ev (tOp (rIxL K) (tVar 3) (tVar 4)) [some (.ref p), some (.int j), some (.ref t), some (.ref F), some (.int (k : Int))] H' (.int (y.getD k 0)) := fun H' e h => Ev.to (ev_op (ev_var rfl) (ev_var rfl) (rv_ixI (sq_of h) (by omega) (by omega))) (by rw [Int.toNat_natCast])
      refine q_when (σ := [some (.ref p), some (.int j), some (.ref t), some (.ref F), some (.int (k : Int))]) (b := decide (y.getD k 0 < (cs.getD k (0, 0)).2)) (et_test (ev_op (at3 _ e6 (e6 _ _ hF5)) (cm _ e6).1 rv_I0)) (fun w H7 e7 => ?_) (fun w H7 e7 => ?_)
      · have hF7 := (e6.trans e7) _ _ hF5
        have e07 := e5.trans (e6.trans e7)
        have el1 : EvL (tSl (rSlL K) (tVar 3) tNoPart (tPart (tVar 4))) [some (.ref p), some (.int j), some (.ref t), some (.ref F), some (.int (k : Int))] H7 (iv (y.take k)) := EvL.to (el_sl (ev_var rfl) eo_none (eo_some (ev_var rfl)) (sq_of hF7)) (cut_to y k)
        have el3 : EvL (tSl (rSlL K) (tVar 3) (tPart (tOp rAdd (tVar 4) (tC (.int 1)))) tNoPart) [some (.ref p), some (.int j), some (.ref t), some (.ref F), some (.int (k : Int))] H7 (iv (y.drop (k + 1))) := EvL.to (el_sl (lo := some ((k + 1 : Nat) : Int)) (ev_var rfl) (eo_some (ev_op (ev_var rfl) ev_c rv_I0)) eo_none (sq_of hF7)) (cut_from y (k + 1) (by omega))
        have el2 : EvL (tLst (tCons (tOp rAdd (tOp (rIxL K) (tVar 3) (tVar 4)) (tC (.int 1))) tNil)) [some (.ref p), some (.int j), some (.ref t), some (.ref F), some (.int (k : Int))] H7 (iv [y.getD k 0 + 1]) := el_lst (ea_cons (ev_op (at3 _ (e6.trans e7) hF7) ev_c rv_I0) ea_nil) (by simp)
        have all : EvL (tOp rCat (tOp rCat (tSl (rSlL K) (tVar 3) tNoPart (tPart (tVar 4))) (tLst (tCons (tOp rAdd (tOp (rIxL K) (tVar 3) (tVar 4)) (tC (.int 1))) tNil))) (tSl (rSlL K) (tVar 3) (tPart (tOp rAdd (tVar 4) (tC (.int 1)))) tNoPart)) [some (.ref p), some (.int j), some (.ref t), some (.ref F), some (.int (k : Int))] H7 (iv (y.set k (y.getD k 0 + 1))) := EvL.to (el_cat (el_cat el1 el2 (by simp; omega)) el3 (by simp; omega)) (by
          rw [List.set_eq_take_append_cons_drop, if_pos (by omega)]
          unfold iv
          simp)
        refine s_retU (eu_tupN all) fun t' H8 ht' e8 h8 => q _ _ (e07.trans e8) ?_
        have : Zk.incD cs (k + 1) y = some (y.set k (y.getD k 0 + 1)) := if_pos (of_decide_eq_true w)
        rw [ey, this]
        exact msv_some h8
      · have ei : Zk.incD cs (k + 1) y = Zk.incD cs k (y.set k 0) := if_neg (of_decide_eq_false w)
        have g := Zk.okL_get oky kl
        refine s_setL (σ := [some (.ref p), some (.int j), some (.ref t), some (.ref F), some (.int (k : Int))]) (v := .int 0) ((e6.trans e7) _ _ hF5) ev_c (ev_var rfl) (ev_var rfl) (by rw [List.length_map]; omega) fun H8 e8 => ⟨y.set k 0, _, rfl, Evl.Ex.mut (e5.trans ((e6.trans e7).trans e8)) hF0, by rw [upd_same, iv_set], Zk.okL_set oky kl (Int.le_refl _) (by omega), by rw [ey, ei, er2]⟩
    · have km : ¬ k < Zk.many cs j := fun h => of_decide_eq_false z (im.mpr h)
      refine ⟨y, _, rfl, e5.trans e6, e6 _ _ hF5, oky, ?_⟩
      rw [ey]
      congr 1
      omega
  · obtain ⟨y, u, rfl, e5, hF5, oky, ey⟩ := p5
    refine s_ret ev_c fun H8 e8 => q _ _ (e5.trans e8) ?_
    rw [ey, Nat.sub_self, Nat.min_zero]
    exact .inl ⟨rfl, rfl⟩
end
end Gp
namespace Gp
open PySem L2 Evl
local macro_rules | `(tactic| one_sign) => `(tactic| first | exact Evl.Ex.refl _ | assumption | exact Evl.Ex.new (by assumption) | (refine Evl.Ex.trans ?_ (by assumption); one_sign) | (refine Evl.Ex.trans ?_ (Evl.Ex.new (by assumption)); one_sign))
local macro_rules | `(tactic| one_place) => `(tactic| first | assumption | exact upd_same | (refine Evl.ex_l ?_ (by assumption); one_sign) | (refine Evl.ex_t ?_ (by assumption); one_sign) | (refine Evl.sq_of ?_; one_place) | (refine Evl.st_of ?_; one_place) | (refine (show Evl.Ex _ _ from ?_) _ _ (by assumption); one_sign))
local macro_rules | `(tactic| one_item) => `(tactic| first | ((with_reducible apply ev_var); rfl) | (with_reducible exact ev_c) | assumption | (refine Ev.mono ?_ (by assumption); one_sign) | ((with_reducible apply ev_op) <;> one_item) | (with_reducible exact rv_I0) | ((with_reducible refine rv_mod ?_); omega) | ((with_reducible refine rv_div ?_ ?_) <;> omega) | ((with_reducible refine rv_mulL ?_); omega) | ((with_reducible refine rv_mulR ?_); omega) | ((with_reducible refine rv_pow ?_); decide) | ((with_reducible refine rv_eq ?_); rfl) | ((with_reducible refine rv_ne ?_); rfl) | (with_reducible exact rv_isN) | (with_reducible exact rv_notN) | ((with_reducible apply rv_inI); one_place) | ((with_reducible apply rv_niI); one_place) | ((with_reducible apply rv_ixT) <;> (first | rfl | one_place)) | ((with_reducible apply ev_len) <;> (first | one_item | one_place)) | ((with_reducible apply ev_lenT) <;> (first | one_item | one_place)) | (with_reducible exact ea_nil) | ((with_reducible apply ea_cons) <;> one_item) | ((with_reducible apply et_test); one_item) | ((with_reducible apply et_B); one_item) | (with_reducible exact et_yes) | ((with_reducible apply et_not); one_item) | ((with_reducible apply ev_chain) <;> one_item) | ((with_reducible apply ev_notV); one_item))
theorem pw_eqR : ∀ {l m : List Int}, l.Pairwise (fun a b => b < a) → m.Pairwise (fun a b => b < a) → (∀ k, k ∈ l ↔ k ∈ m) → l = m
  | [], [], _, _, _ => rfl
  | [], b :: m, _, _, h => absurd ((h b).mpr List.mem_cons_self) (by simp)
  | a :: l, [], _, _, h => absurd ((h a).mp List.mem_cons_self) (by simp)
  | a :: l, b :: m, hl, hm, h => by
    have hl' := List.pairwise_cons.mp hl
    have hm' := List.pairwise_cons.mp hm
    have ab : a = b := by
      have h1 := (h a).mp List.mem_cons_self
      have h2 := (h b).mpr List.mem_cons_self
      rcases List.mem_cons.mp h1 with z | z
      · exact z
      · rcases List.mem_cons.mp h2 with y | y
        · exact y.symm
        · have := hm'.1 a z
          have := hl'.1 b y
          omega
    subst ab
    rw [pw_eqR hl'.2 hm'.2 fun k => by
      constructor
      · intro z
        rcases List.mem_cons.mp ((h k).mp (List.mem_cons_of_mem _ z)) with y | y
        · have := hl'.1 k z
          omega
        · exact y
      · intro z
        rcases List.mem_cons.mp ((h k).mpr (List.mem_cons_of_mem _ z)) with y | y
        · have := hm'.1 k z
          omega
        · exact y]
/-! the odd numbers of a game and how often they stand -/
def cntN (g : List Row) (k : Int) : Nat := ((List.range g.length).filter fun i => decide ((rowN g i).2.1 = k)).length
structure CsOf (g : List Row) (cs : Zk.CS) : Prop where
  dec : Zk.Dec cs
  cnt : ∀ oc ∈ cs, oc.1 % 2 = 1 ∧ oc.2 = (cntN g oc.1 : Nat)
  mem : ∀ k, k ∈ cs.map (·.1) ↔ k % 2 = 1 ∧ ∃ i, i < g.length ∧ (rowN g i).2.1 = k
theorem CsOf.uniq {g : List Row} {cs ds : Zk.CS} (h : CsOf g cs) (k : CsOf g ds) : cs = ds := by
  have e1 : ∀ {cs : Zk.CS}, CsOf g cs → cs = (cs.map (·.1)).map fun k => (k, (cntN g k : Int)) := by
    intro cs h
    rw [List.map_map]
    conv => lhs; rw [← List.map_id cs]
    refine List.map_congr_left fun oc hoc => ?_
    have := (h.cnt oc hoc).2
    show oc = (oc.1, (cntN g oc.1 : Int))
    rw [← this]
  have e2 : cs.map (·.1) = ds.map (·.1) := pw_eqR (List.pairwise_map.mpr h.dec) (List.pairwise_map.mpr k.dec) fun z => (h.mem z).trans (k.mem z).symm
  rw [e1 h, e1 k, e2]
theorem CsOf.len {g : List Row} {cs : Zk.CS} (h : CsOf g cs) : cs.length ≤ g.length := by
  have nd : (cs.map (·.1)).Nodup := by
    have : (cs.map (·.1)).Pairwise (fun a b => b < a) := List.pairwise_map.mpr h.dec
    exact this.imp fun {a b} h z => by omega
  have := Zk.nodup_len (cs.map (·.1)) ((List.range g.length).map fun i => (rowN g i).2.1) nd fun x hx => by
    obtain ⟨_, i, hi, e⟩ := (h.mem x).mp hx
    exact List.mem_map.mpr ⟨i, List.mem_range.mpr hi, e⟩
  simpa using this
theorem csOf_mk {g : List Row} {ms : List Int} (pw : ms.Pairwise (· < ·)) (hm : ∀ k, k ∈ ms ↔ k % 2 = 1 ∧ ∃ i, i < g.length ∧ (rowN g i).2.1 = k) : CsOf g (ms.reverse.map fun k => (k, (cntN g k : Int))) := by
  refine ⟨?_, fun oc hoc => ?_, fun k => ?_⟩
  · show List.Pairwise _ _
    rw [List.pairwise_map, List.pairwise_reverse]
    exact pw
  · obtain ⟨k, hk, rfl⟩ := List.mem_map.mp hoc
    exact ⟨((hm k).mp (List.mem_reverse.mp hk)).1, rfl⟩
  · rw [List.map_map, ← hm k]
    have : ((fun x : Int × Int => x.1) ∘ fun k => (k, (cntN g k : Int))) = id := rfl
    rw [this, List.map_id, List.mem_reverse]
section
variable {K : PySem.W.Frag} {σ : L2.St} {H : Hp}
/-! new lists of which each item is told -/
def EvLP (te : TE) (σ : L2.St) (H : Hp) (n : Nat) (P : Nat → V → Hp → Prop) : Prop := ∀ H1, Evl.Ex H H1 → ∀ Q : VK, (∀ p H2, H1 p = none → Evl.Ex H1 H2 → LsP H2 p n P → Q (.ref p) H2) → te σ H1 Q
def CpP (H : Hp) (P : Nat → V → Hp → Prop) (Dl : Addr) (i : Nat) (H' : Hp) : Prop := H Dl = none ∧ Evl.Ex H H' ∧ LsP H' Dl i P
theorem lsp_nil {H : Hp} {p : Addr} {P : Nat → V → Hp → Prop} (h : H p = some (.lst [])) : LsP H p 0 P := ⟨[], h, rfl, fun i v hv => by simp at hv⟩
theorem lsp_push {H H' : Hp} {p : Addr} {n : Nat} {P : Nat → V → Hp → Prop} {y : V} (hL : ∀ i, Lasts (P i)) (hK : ∀ i, Keep (P i)) (h : LsP H p n P) (e : Evl.Ex H H') (py : P n y H') : ∃ acc, H' p = some (.lst acc) ∧ acc.length = n ∧ LsP (upd H' p (.lst (acc ++ [y]))) p (n + 1) P := by
  obtain ⟨xs, h1, h2, h3⟩ := h.mono hL e
  refine ⟨xs, h1, h2, xs ++ [y], upd_same, by simp [h2], fun i v hv => ?_⟩
  by_cases c : i < xs.length
  · rw [List.getElem?_append_left c] at hv
    exact hK i _ _ _ _ _ (h3 i v hv) h1
  · rw [List.getElem?_append_right (by omega)] at hv
    have ei : i - xs.length = 0 := by
      have := (List.getElem?_eq_some_iff.mp hv).1
      simp at this
      omega
    rw [ei] at hv
    cases hv
    have : i = n := by omega
    subst this
    exact hK _ _ _ _ _ _ py h1
theorem cp_turn {H H' : Hp} {P : Nat → V → Hp → Prop} {Dl : Addr} {i : Nat} {te : TE} {σ2 : L2.St} (hL : ∀ i, Lasts (P i)) (hK : ∀ i, Keep (P i)) (p : CpP H P Dl i H') (hi : i < 50000) (he : EvP te σ2 H (P i)) :
    tYes σ2 H' fun b H3 => if b = true then te σ2 H3 fun y H4 => ∃ acc, H4 Dl = some (.lst acc) ∧ acc.length < sizeLine ∧ CpP H P Dl (i + 1) (upd H4 Dl (.lst (acc ++ [y]))) else CpP H P Dl (i + 1) H3 := by
  obtain ⟨p1, p2, p3⟩ := p
  show te σ2 H' fun y H4 => ∃ acc, H4 Dl = some (.lst acc) ∧ acc.length < sizeLine ∧ CpP H P Dl (i + 1) (upd H4 Dl (.lst (acc ++ [y])))
  refine he H' p2 _ fun y H4 e4 py => ?_
  obtain ⟨acc, a1, a2, a3⟩ := lsp_push hL hK p3 e4 py
  exact ⟨acc, a1, sz_lt (by omega), p1, Evl.Ex.mut (p2.trans e4) p1, a3⟩
theorem ep_lcRevP {xs : List V} {tl te : TE} {j : Nat} {vs : List Nat} {P : Nat → V → Hp → Prop} (hL : ∀ i, Lasts (P i)) (hK : ∀ i, Keep (P i)) {a : Addr} (h : Ev tl σ H (.ref a)) (hx : SqL K H a xs) (hz : xs.length ≤ 40000) (hw : ∀ x, wipe ((wipe σ vs).set j (some x)) vs = wipe σ vs)
    (he : ∀ (i : Nat) (x : V) H1, Evl.Ex H H1 → i < xs.length → xs[xs.length - 1 - i]? = some x → EvP te ((wipe σ vs).set j (some x)) H1 (P i)) :
    EvLP (tLc (iRev K (tCons tl tNil)) (gName j) tYes te vs) σ H xs.length P := fun H0 e Q q => h H0 e _ fun H1 e1 => ⟨a, xs, rfl, ex_l (e.trans e1) hx, fun Dl hD =>
  lc_it walk_rev (CpP H1 P Dl) ⟨hD, Evl.Ex.new hD, lsp_nil upd_same⟩ (fun i H' _ p => ex_l ((e.trans e1).trans p.2.1) hx) (fun i x H' H'' hi p y => by
    obtain ⟨rfl, hy⟩ := y
    exact ⟨hw x, cp_turn hL hK p (by omega) (he i x H1 (e.trans e1) hi hy)⟩) (fun H' p => q Dl H' (fresh_back e1 p.1) (e1.trans p.2.1) p.2.2)⟩
theorem ep_lcLP {xs : List V} {tl te : TE} {j : Nat} {vs : List Nat} {P : Nat → V → Hp → Prop} (hL : ∀ i, Lasts (P i)) (hK : ∀ i, Keep (P i)) {a : Addr} (h : Ev tl σ H (.ref a)) (hx : SqL K H a xs) (hz : xs.length ≤ 40000) (hw : ∀ x, wipe ((wipe σ vs).set j (some x)) vs = wipe σ vs)
    (he : ∀ (i : Nat) (x : V) H1, Evl.Ex H H1 → xs[i]? = some x → EvP te ((wipe σ vs).set j (some x)) H1 (P i)) :
    EvLP (tLc (iList K tl) (gName j) tYes te vs) σ H xs.length P := fun H0 e Q q => h H0 e _ fun H1 e1 => ⟨a, rfl, ⟨xs, ex_l (e.trans e1) hx⟩, fun Dl hD =>
  lc_list (xs := xs) (CpP H1 P Dl) ⟨hD, Evl.Ex.new hD, lsp_nil upd_same⟩ (fun i H' _ p => ex_l ((e.trans e1).trans p.2.1) hx) (fun i x H' hi p => ⟨hw x, cp_turn hL hK p (by have := (List.getElem?_eq_some_iff.mp hi).1; omega) (he i x H1 (e.trans e1) hi)⟩) (fun H' p => q Dl H' (fresh_back e1 p.1) (e1.trans p.2.1) p.2.2)⟩
theorem q_asgLP {D : Ends} {tz : TS} {te : TE} {i n : Nat} {P : Nat → V → Hp → Prop} (h : EvLP te σ H n P) (k : ∀ p H1, H p = none → Evl.Ex H H1 → LsP H1 p n P → tz D (σ.set i (some (.ref p))) H1) : tSeq (tAsg te (gName i)) tz D σ H := h H (Evl.Ex.refl _) _ k
theorem el_sortedSet {ns : List Int} {ta : TE} (h : EvL ta σ H (iv ns)) (hl : ns.length < 64) {H1 : Hp} (e : Evl.Ex H H1) {Q : VK} (q : ∀ ms p H2, ms.Pairwise (· < ·) → (∀ k, k ∈ ms ↔ k ∈ ns) → H1 p = none → Evl.Ex H1 H2 → H2 p = some (.lst (iv ms)) → Q (.ref p) H2) : tSortedSet K ta σ H1 Q :=
  h H1 e _ fun l H2 hl2 e2 h2 => ⟨l, ns, rfl, sq_of h2, hl, fun ms p pw mm hp => q ms p _ pw mm (fresh_back e2 hp) (e2.trans (Evl.Ex.new hp)) upd_same⟩
theorem ga_at {a : Addr} {g : List Row} {rt rw : Nat → Addr} {i : Nat} {x : V} (h : ((List.range g.length).map fun i => V.ref (rt i))[i]? = some x) : i < g.length ∧ x = .ref (rt i) := by
  have hi := (List.getElem?_eq_some_iff.mp h).1
  simp at hi
  rw [List.getElem?_map, List.getElem?_range hi] at h
  cases h
  exact ⟨hi, rfl⟩
/-- how many rows have a number -/
theorem ev_cnt {tl tn : TE} {a : Addr} {g : List Row} {rt rw : Nat → Addr} {k : Int} {j : Nat} (G : GA K H a g rt rw) (h40 : g.length ≤ 40) (h : Ev tl σ H (.ref a)) (hw : ∀ x, wipe ((wipe σ [j]).set j (some x)) [j] = wipe σ [j]) (hv : ∀ x, ((wipe σ [j]).set j (some x))[j]? = some (some x))
    (hn : ∀ x H1, Evl.Ex H H1 → Ev tn ((wipe σ [j]).set j (some x)) H1 (.int k)) : Ev (tCB (rLenS K) (tCons (tLc (iList K tl) (gName j) (tTest (tOp rEq (tOp (rIxT K) (tVar j) (tC (.int 1))) tn)) (tVar j) [j]) tNil)) σ H (.int (cntN g k : Nat)) := by
  refine Ev.to (ev_lenN (el_lcL (fun i => decide ((rowN g i).2.1 = k)) (fun i => .ref (rt i)) h G.lst (by simp; omega) hw (fun i x H1 e hx => ?_) fun i x H1 e hx _ => ?_)) ?_
  · obtain ⟨hi, rfl⟩ := ga_at (a := a) (rw := rw) hx
    exact et_test (Ev.to (ev_op (ev_op (ev_var (hv _)) ev_c (rv_ixT (ex_t e (G.row i hi)) rfl)) (hn _ _ e) (rv_eq rfl)) (by simp))
  · obtain ⟨hi, rfl⟩ := ga_at (a := a) (rw := rw) hx
    exact ev_var (hv _)
  · congr 2
    unfold given cntN
    simp
/-! counts_of -/
def RetC (g : List Row) (H : Hp) (Q : VK) : Prop := ∀ cs p H', CsOf g cs → H p = none → Evl.Ex H H' → CsA H' p cs → Q (.ref p) H'
theorem RetC.go {g : List Row} {H H' : Hp} {Q : VK} (h : RetC g H Q) (e : Evl.Ex H H') : RetC g H' Q := fun cs p H2 c hp e2 a => h cs p H2 c (fresh_back e hp) (e.trans e2) a
def sp_counts_of (K : PySem.W.Frag) : Sp := fun vs H Q _ => ∃ a g rt rw, vs = [.ref a] ∧ GA K H a g rt rw ∧ OkG g ∧ RetC g H Q
theorem ep_pair {ta tb : TE} {k c : Int} (ha : Ev ta σ H (.int k)) (hb : Ev tb σ H (.int c)) : EvP (tTup (tCons ta (tCons tb tNil))) σ H (PrV (k, c)) := ep_tup (eu_tup (vs := [.int k, .int c]) (ea_cons ha (ea_cons hb ea_nil)) (by simp)) fun p H' e hp => ⟨p, rfl, hp⟩
theorem pure_counts_of (vs : List V) (H : Hp) (Q : VK) (E : XK) (h : sp_counts_of K vs H Q E) : t_counts_of K { nx := fun _ H' => Q .non H', rt := Q } (start N_counts_of vs) H := by
  obtain ⟨a, g, rt, rw', rfl, G, ok, q⟩ := h
  have l40 := ok.len
  have src : EvL (tLc (iList K (tVar 0)) (gName 2) (tTest (tOp rEq (tOp rMod (tOp (rIxT K) (tVar 2) (tC (.int 1))) (tC (.int 2))) (tC (.int 1)))) (tOp (rIxT K) (tVar 2) (tC (.int 1))) [2]) [some (.ref a), none, none, none] H (iv (((List.range g.length).filter fun i => decide ((rowN g i).2.1 % 2 = 1)).map fun i => (rowN g i).2.1)) := by
    refine EvL.to (el_lcL (fun i => decide ((rowN g i).2.1 % 2 = 1)) (fun i => .int (rowN g i).2.1) (ev_var rfl) G.lst (by simp; omega) (fun _ => rfl) (fun i x H1 e hx => ?_) fun i x H1 e hx _ => ?_) ?_
    · obtain ⟨hi, rfl⟩ := ga_at (a := a) (rw := rw') hx
      exact et_test (Ev.to (ev_op (ev_op (ev_op (ev_var rfl) ev_c (rv_ixT (ex_t e (G.row i hi)) rfl)) ev_c (rv_mod (by omega))) ev_c (rv_eq rfl)) (by simp))
    · obtain ⟨hi, rfl⟩ := ga_at (a := a) (rw := rw') hx
      exact ev_op (ev_var rfl) ev_c (rv_ixT (ex_t e (G.row i hi)) rfl)
    · unfold given iv
      simp
  refine q_asgRaw ?_
  refine el_sortedSet src (by rw [List.length_map]; have := List.length_filter_le (fun i => decide ((rowN g i).2.1 % 2 = 1)) (List.range g.length); rw [List.length_range] at this; omega) (Evl.Ex.refl _) fun ms M H1 pw mm hM e1 hM1 => ?_
  have hm : ∀ k, k ∈ ms ↔ k % 2 = 1 ∧ ∃ i, i < g.length ∧ (rowN g i).2.1 = k := by
    intro k
    rw [mm k, List.mem_map]
    constructor
    · rintro ⟨i, hi, rfl⟩
      rw [List.mem_filter, List.mem_range] at hi
      exact ⟨of_decide_eq_true hi.2, i, hi.1, rfl⟩
    · rintro ⟨h1, i, hi, rfl⟩
      exact ⟨i, List.mem_filter.mpr ⟨List.mem_range.mpr hi, decide_eq_true h1⟩, rfl⟩
  have C := csOf_mk pw hm
  have cl := C.len
  have ml : ms.length ≤ 40 := by
    simp at cl
    omega
  refine (ep_lcRevP (K := K) (σ := [some (.ref a), some (.ref M), none, none]) (j := 3) (vs := [3]) (P := fun i => PrV ((ms.reverse.map fun k => (k, (cntN g k : Int))).getD i (0, 0))) (fun _ => PrV.lasts) (fun _ => PrV.keep) (ev_var rfl) (sq_of hM1) (by rw [List.length_map]; omega) (fun _ => rfl) fun i x H2 e2 hi hx => ?_) H1 (Evl.Ex.refl _) _ fun p H2 hp e2 hL => ?_
  · rw [List.length_map] at hi hx
    obtain ⟨k, hk, rfl⟩ := iv_at hx
    have ek : (ms.reverse.map fun k => (k, (cntN g k : Int))).getD i (0, 0) = (k, (cntN g k : Int)) := by
      rw [List.getD, List.getElem?_map, List.getElem?_reverse hi, hk]
      rfl
    rw [ek]
    exact ep_pair (ev_var rfl) (ev_cnt (G.mono (e1.trans e2)) l40 (ev_var rfl) (fun _ => rfl) (fun _ => rfl) fun x H3 e3 => ev_var rfl)
  · refine q _ p H2 C (fresh_back e1 hp) (e1.trans e2) ?_
    rw [List.length_map] at hL
    show LsP _ _ _ _
    rw [List.length_map, List.length_reverse]
    exact hL
end
end Gp
namespace Gp
open PySem L2 Evl
local macro_rules | `(tactic| one_sign) => `(tactic| first | exact Evl.Ex.refl _ | assumption | exact Evl.Ex.new (by assumption) | (refine Evl.Ex.trans ?_ (by assumption); one_sign) | (refine Evl.Ex.trans ?_ (Evl.Ex.new (by assumption)); one_sign))
local macro_rules | `(tactic| one_place) => `(tactic| first | assumption | exact upd_same | (refine Evl.ex_l ?_ (by assumption); one_sign) | (refine Evl.ex_t ?_ (by assumption); one_sign) | (refine Evl.sq_of ?_; one_place) | (refine Evl.st_of ?_; one_place) | (refine (show Evl.Ex _ _ from ?_) _ _ (by assumption); one_sign))
local macro_rules | `(tactic| one_item) => `(tactic| first | ((with_reducible apply ev_var); rfl) | (with_reducible exact ev_c) | assumption | (refine Ev.mono ?_ (by assumption); one_sign) | ((with_reducible apply ev_op) <;> one_item) | (with_reducible exact rv_I0) | ((with_reducible refine rv_mod ?_); omega) | ((with_reducible refine rv_div ?_ ?_) <;> omega) | ((with_reducible refine rv_mulL ?_); omega) | ((with_reducible refine rv_mulR ?_); omega) | ((with_reducible refine rv_pow ?_); decide) | ((with_reducible refine rv_eq ?_); rfl) | ((with_reducible refine rv_ne ?_); rfl) | (with_reducible exact rv_isN) | (with_reducible exact rv_notN) | ((with_reducible apply rv_inI); one_place) | ((with_reducible apply rv_niI); one_place) | ((with_reducible apply rv_ixT) <;> (first | rfl | one_place)) | ((with_reducible apply ev_len) <;> (first | one_item | one_place)) | ((with_reducible apply ev_lenT) <;> (first | one_item | one_place)) | (with_reducible exact ea_nil) | ((with_reducible apply ea_cons) <;> one_item) | ((with_reducible apply et_test); one_item) | ((with_reducible apply et_B); one_item) | (with_reducible exact et_yes) | ((with_reducible apply et_not); one_item) | ((with_reducible apply ev_chain) <;> one_item) | ((with_reducible apply ev_notV); one_item))
section
variable {K : PySem.W.Frag} {σ : L2.St} {H : Hp}
theorem cutV_from (xs : List V) (n : Nat) (h : n ≤ xs.length) : cutV xs (some (n : Int)) none = xs.drop n := by
  unfold cutV
  rw [HT.sIx_none, HT.sIx_nat, Nat.min_eq_left h]
  exact List.take_of_length_le (by rw [List.length_drop]; exact Nat.le_refl _)
theorem SpV.more {H : Hp} {u v : V} {a b : Zk.Ms} (hu : MsV a u H) (hv : MsV b v H) : SpV sp_is_more [u, v] H (.bl (Zk.moreM a b)) := fun H1 e Q q E => ⟨u, v, a, b, rfl, MsV.lasts _ _ _ e hu, MsV.lasts _ _ _ e hv, q⟩
/-! lifted -/
def AllOk (cs : Zk.CS) (f : List Zk.Ms) : Prop := ∀ i, i < f.length → Zk.OkM cs (f.getD i none)
def sp_lifted (K : PySem.W.Frag) : Sp := fun vs H Q _ => ∃ a c F p g rt rw cs f, vs = [.ref a, .ref c, .ref F, .int p] ∧ GA K H a g rt rw ∧ OkG g ∧ CsA H c cs ∧ Zk.Dec cs ∧ cs.length ≤ 40 ∧ FdA H F f ∧ f.length = g.length ∧ AllOk cs f ∧ Ing g p ∧ ∀ m v H', Evl.Ex H H' → Zk.LftM (gm g) cs f p m → MsV m v H' → Q v H'
theorem ok_at {g : List Row} {cs : Zk.CS} {f : List Zk.Ms} (h : AllOk cs f) (hl : f.length = g.length) {w : Int} (hw : Ing g w) : Zk.OkM cs (Zk.mAt f w) := h _ (by rw [hl]; exact (ing_nat hw).1)
theorem pure_lifted (vs : List V) (H : Hp) (Q : VK) (E : XK) (h : sp_lifted K vs H Q E) : t_lifted K (sp_behind K) sp_is_more { nx := fun _ H' => Q .non H', rt := Q } (start N_lifted vs) H := by
  obtain ⟨a, c, F, p, g, rt, rw', cs, f, rfl, G, ok, C, dec, cl, A, fl, af, hp, q⟩ := h
  obtain ⟨hp1, hp2⟩ := ing_nat hp
  have hown : (gm g).own p = 0 ∨ (gm g).own p = 1 := ok.own _ hp1
  have hne : (gm g).ways p ≠ [] := ok.ne _ hp1
  have hway : ∀ w ∈ (gm g).ways p, Ing g w := ok.way _ hp1
  have hfew : ((gm g).ways p).length ≤ 1000 := ok.few _ hp1
  refine q_asgG (σ := [some (.ref a), some (.ref c), some (.ref F), some (.int p), none, none, none, none, none, none, none]) (ev_row G (ev_var rfl) (ev_var rfl) hp) fun H1 e1 => g_trip (ex_t e1 (G.row _ hp1)) ?_
  show tSeq _ _ _ [some (.ref a), some (.ref c), some (.ref F), some (.int p), some (.int ((gm g).own p)), some (.int ((gm g).num p)), some (.ref (rw' p.toNat)), none, none, none, none] H1
  obtain ⟨L, hL⟩ : ∃ L, L = ((gm g).ways p).map (fun w => Zk.beh cs ((gm g).num p) (Zk.mAt f w)) := ⟨_, rfl⟩
  have Ll : L.length = ((gm g).ways p).length := by rw [hL, List.length_map]
  refine q_asgLP (σ := [some (.ref a), some (.ref c), some (.ref F), some (.int p), some (.int ((gm g).own p)), some (.int ((gm g).num p)), some (.ref (rw' p.toNat)), none, none, none, none]) (ep_lcLP (j := 10) (vs := [10]) (P := fun i => MsV (L.getD i none)) (fun _ => MsV.lasts) (fun _ => MsV.keep) (ev_var rfl) (ex_l e1 (G.ways hp)) (by rw [List.length_map]; omega) (fun _ => rfl) fun i x H2 e2 hx => ?_) fun R H2 hR e2 hR2 => ?_
  · obtain ⟨w, hw, rfl⟩ := iv_at hx
    have ew : L.getD i none = Zk.beh cs ((gm g).num p) (Zk.mAt f w) := by
      rw [hL, List.getD, List.getElem?_map, hw]
      rfl
    rw [ew]
    have hwm := hway w (List.mem_of_getElem? hw)
    obtain ⟨w1, w2⟩ := ing_nat hwm
    have e02 := e1.trans e2
    obtain ⟨v, hv, ev⟩ := LsP.ix (K := K) (A.mono e02) (i := w.toNat) (by omega)
    refine fun H3 e3 Q' q' => tcall_of (vs := [.ref c, .int ((gm g).num p), v]) (ea_cons (ev_var rfl) (ea_cons (ev_var rfl) (ea_cons (ev e3 (ev_var rfl) (Ev.to (ev_var rfl) (by rw [w2]))) ea_nil))) fun H4 e4 => ?_
    have e04 := (e02.trans e3).trans e4
    exact ⟨c, _, v, cs, Zk.mAt f w, rfl, C.mono e04, dec, cl, MsV.lasts _ _ _ (e3.trans e4) hv, ok_at af fl hwm, fun u H5 e5 hu => q' u H5 (e4.trans e5) hu⟩
  have e02 := e1.trans e2
  rw [show (iv ((gm g).ways p)).length = L.length from by rw [List.length_map, Ll]] at hR2
  cases hLc : L with
  | nil =>
    rw [hLc] at Ll
    exact absurd (List.length_eq_zero_iff.mp Ll.symm) hne
  | cons b l =>
    rw [hLc] at hR2
    have hR2' : FdA H2 R (b :: l) := hR2
    obtain ⟨v0, hv0, ev0⟩ := LsP.ix (K := K) hR2' (i := 0) (by simp)
    refine q_asg (σ := [some (.ref a), some (.ref c), some (.ref F), some (.int p), some (.int ((gm g).own p)), some (.int ((gm g).num p)), some (.ref (rw' p.toNat)), some (.ref R), none, none, none]) (v := v0) (ev0 (Evl.Ex.refl _) (ev_var rfl) ev_c) fun H3 e3 => ?_
    obtain ⟨xs, x1, x2, x3⟩ := hR2'
    have xl : xs.length = l.length + 1 := x2
    refine q_forNLn (σ := [some (.ref a), some (.ref c), some (.ref F), some (.int p), some (.int ((gm g).own p)), some (.int ((gm g).num p)), some (.ref (rw' p.toNat)), some (.ref R), some v0, none, none]) (xs := xs.drop 1) (EvL.to (el_sl (lo := some ((1 : Nat) : Int)) (hi := none) (ev_var rfl) (eo_some ev_c) eo_none (sq_of (e3 _ _ x1))) (cutV_from xs 1 (by omega)))
      (fun T i σ H' => ∃ (u : Option V) (bv : V), σ = [some (.ref a), some (.ref c), some (.ref F), some (.int p), some (.int ((gm g).own p)), some (.int ((gm g).num p)), some (.ref (rw' p.toNat)), some (.ref R), some bv, u, none] ∧ Evl.Ex H3 H' ∧ H' T = some (.lst (xs.drop 1)) ∧ MsV ((l.take i).foldl (Zk.pick ((gm g).own p)) b) bv H')
      (fun T H4 hT e4 hT4 => ⟨none, v0, rfl, e4, hT4, MsV.lasts _ _ _ (e3.trans e4) hv0⟩) (fun T i σ H' _ p' => by
        obtain ⟨_, _, _, _, h, _⟩ := p'
        exact sq_of h) (fun T i x σ H4 hx p' => ?_) (fun T σ H4 p' => ?_)
    · obtain ⟨u, bv, rfl, e4, hT4, hb⟩ := p'
      rw [List.getElem?_drop] at hx
      have hil : 1 + i < xs.length := (List.getElem?_eq_some_iff.mp hx).1
      have hli : l[i]? = some (l.getD i none) := by simp [List.getD, show i < l.length by omega]
      have hx0 : MsV ((b :: l).getD (1 + i) none) x H2 := x3 (1 + i) x hx
      have hx1 : MsV (l.getD i none) x H4 := by
        have : (b :: l).getD (1 + i) none = l.getD i none := by rw [Nat.add_comm]; rfl
        rw [this] at hx0
        exact MsV.lasts _ _ _ (e3.trans e4) hx0
      have eo : ∀ k : Int, Ev (tOp rEq (tVar 4) (tC (.int k))) [some (.ref a), some (.ref c), some (.ref F), some (.int p), some (.int ((gm g).own p)), some (.int ((gm g).num p)), some (.ref (rw' p.toNat)), some (.ref R), some bv, some x, none] H4 (.bl (decide ((gm g).own p = k))) := fun k => Ev.to (ev_op (ev_var rfl) ev_c (rv_eq rfl)) (by simp)
      refine s_when (σ := [some (.ref a), some (.ref c), some (.ref F), some (.int p), some (.int ((gm g).own p)), some (.int ((gm g).num p)), some (.ref (rw' p.toNat)), some (.ref R), some bv, some x, none]) (b := (decide ((gm g).own p = 0) && Zk.moreM ((l.take i).foldl (Zk.pick ((gm g).own p)) b) (l.getD i none)) || (decide ((gm g).own p = 1) && Zk.moreM (l.getD i none) ((l.take i).foldl (Zk.pick ((gm g).own p)) b)))
        (et_or (et_and (et_test (eo 0)) fun _ => et_B (ev_call0 (ea_cons (ev_var rfl) (ea_cons (ev_var rfl) ea_nil)) (SpV.more hb hx1))) fun _ => et_and (et_test (eo 1)) fun _ => et_B (ev_call0 (ea_cons (ev_var rfl) (ea_cons (ev_var rfl) ea_nil)) (SpV.more hx1 hb))) (fun z H5 e5 => ?_) (fun z H5 e5 => ?_)
      · refine s_asg (v := x) (ev_var rfl) fun H6 e6 => ⟨_, x, rfl, e4.trans (e5.trans e6), (e5.trans e6) _ _ hT4, ?_⟩
        rw [foldl_take _ _ hli]
        have : Zk.pick ((gm g).own p) ((l.take i).foldl (Zk.pick ((gm g).own p)) b) (l.getD i none) = l.getD i none := if_pos (by simpa using z)
        rw [this]
        exact MsV.lasts _ _ _ (e5.trans e6) hx1
      · refine ⟨_, bv, rfl, e4.trans e5, e5 _ _ hT4, ?_⟩
        rw [foldl_take _ _ hli]
        have : Zk.pick ((gm g).own p) ((l.take i).foldl (Zk.pick ((gm g).own p)) b) (l.getD i none) = (l.take i).foldl (Zk.pick ((gm g).own p)) b := if_neg (by
          intro c
          have : ((decide ((gm g).own p = 0) && Zk.moreM ((l.take i).foldl (Zk.pick ((gm g).own p)) b) (l.getD i none)) || (decide ((gm g).own p = 1) && Zk.moreM (l.getD i none) ((l.take i).foldl (Zk.pick ((gm g).own p)) b))) = true := by simpa using c
          rw [this] at z
          cases z)
        rw [this]
        exact MsV.lasts _ _ _ e5 hb
    · obtain ⟨u, bv, rfl, e4, hT4, hb⟩ := p'
      rw [List.length_drop, List.take_of_length_le (by omega)] at hb
      exact s_ret (ev_var rfl) fun H5 e5 => q _ _ H5 (e02.trans (e3.trans (e4.trans e5))) (Zk.lifted_ok dec hown (fun w hw => ok_at af fl (hway w hw)) (hL.symm.trans hLc)) (MsV.lasts _ _ _ e5 hb)
end
end Gp
namespace Gp
open PySem L2 Evl
local macro_rules | `(tactic| one_sign) => `(tactic| first | exact Evl.Ex.refl _ | assumption | exact Evl.Ex.new (by assumption) | (refine Evl.Ex.trans ?_ (by assumption); one_sign) | (refine Evl.Ex.trans ?_ (Evl.Ex.new (by assumption)); one_sign))
local macro_rules | `(tactic| one_place) => `(tactic| first | assumption | exact upd_same | (refine Evl.ex_l ?_ (by assumption); one_sign) | (refine Evl.ex_t ?_ (by assumption); one_sign) | (refine Evl.sq_of ?_; one_place) | (refine Evl.st_of ?_; one_place) | (refine (show Evl.Ex _ _ from ?_) _ _ (by assumption); one_sign))
local macro_rules | `(tactic| one_item) => `(tactic| first | ((with_reducible apply ev_var); rfl) | (with_reducible exact ev_c) | assumption | (refine Ev.mono ?_ (by assumption); one_sign) | ((with_reducible apply ev_op) <;> one_item) | (with_reducible exact rv_I0) | ((with_reducible refine rv_mod ?_); omega) | ((with_reducible refine rv_div ?_ ?_) <;> omega) | ((with_reducible refine rv_mulL ?_); omega) | ((with_reducible refine rv_mulR ?_); omega) | ((with_reducible refine rv_pow ?_); decide) | ((with_reducible refine rv_eq ?_); rfl) | ((with_reducible refine rv_ne ?_); rfl) | (with_reducible exact rv_isN) | (with_reducible exact rv_notN) | ((with_reducible apply rv_inI); one_place) | ((with_reducible apply rv_niI); one_place) | ((with_reducible apply rv_ixT) <;> (first | rfl | one_place)) | ((with_reducible apply ev_len) <;> (first | one_item | one_place)) | ((with_reducible apply ev_lenT) <;> (first | one_item | one_place)) | (with_reducible exact ea_nil) | ((with_reducible apply ea_cons) <;> one_item) | ((with_reducible apply et_test); one_item) | ((with_reducible apply et_B); one_item) | (with_reducible exact et_yes) | ((with_reducible apply et_not); one_item) | ((with_reducible apply ev_chain) <;> one_item) | ((with_reducible apply ev_notV); one_item))
theorem lft_congr {G : Zk.Gm} {cs : Zk.CS} {v u : Int → Nat} {p : Int} {x : Nat} (h : Zk.Lft G cs v p x) (e : ∀ w ∈ G.ways p, v w = u w) : Zk.Lft G cs u p x := by
  obtain ⟨⟨w, h1, h2⟩, h3, h4⟩ := h
  refine ⟨⟨w, h1, by rw [← e w h1]; exact h2⟩, fun o z hz => ?_, fun o z hz => ?_⟩
  · rw [← e z hz]; exact h3 o z hz
  · rw [← e z hz]; exact h4 o z hz
/-- told measures that were come to by raising -/
structure Jms (g : List Row) (cs : Zk.CS) (f : List Zk.Ms) : Prop where
  len : f.length = g.length
  ok : AllOk cs f
  rch : ∃ v, Zk.Rch (gm g) (Ing g) cs v ∧ ∀ p, Ing g p → Zk.cAt cs f p = v p
/-- no place wants more -/
def Stb (g : List Row) (cs : Zk.CS) (f : List Zk.Ms) (I : Int → Prop) : Prop := ∀ p, Ing g p → I p → ∀ m, Zk.LftM (gm g) cs f p m → Zk.code cs m ≤ Zk.cAt cs f p
def tot (cs : Zk.CS) (f : List Zk.Ms) : Nat := (f.map fun m => Zk.wt cs - Zk.code cs m).sum
theorem tot_set {cs : Zk.CS} : ∀ (f : List Zk.Ms) (i : Nat) (m : Zk.Ms), i < f.length → tot cs (f.set i m) + (Zk.wt cs - Zk.code cs (f.getD i none)) = tot cs f + (Zk.wt cs - Zk.code cs m)
  | [], i, m, h => by simp at h
  | a :: f, 0, m, _ => by
    show (Zk.wt cs - Zk.code cs m) + tot cs f + (Zk.wt cs - Zk.code cs a) = (Zk.wt cs - Zk.code cs a) + tot cs f + (Zk.wt cs - Zk.code cs m)
    omega
  | a :: f, i + 1, m, h => by
    have := tot_set (cs := cs) f i m (by simpa using h)
    show (Zk.wt cs - Zk.code cs a) + tot cs (f.set i m) + (Zk.wt cs - Zk.code cs (f.getD i none)) = (Zk.wt cs - Zk.code cs a) + tot cs f + (Zk.wt cs - Zk.code cs m)
    omega
theorem getD_setM (f : List Zk.Ms) (i j : Nat) (m : Zk.Ms) (h : i < f.length) : (f.set i m).getD j none = if j = i then m else f.getD j none := by
  by_cases c : j = i
  · subst c
    simp [List.getD, h]
  · simp [List.getD, List.getElem?_set_ne (Ne.symm c), c]
theorem mAt_set {g : List Row} {f : List Zk.Ms} (hl : f.length = g.length) {p q : Int} (hp : Ing g p) (hq : Ing g q) (m : Zk.Ms) : Zk.mAt (f.set p.toNat m) q = if q = p then m else Zk.mAt f q := by
  unfold Zk.mAt
  rw [getD_setM _ _ _ _ (by rw [hl]; exact (ing_nat hp).1)]
  have h1 := (ing_nat hp).2
  have h2 := (ing_nat hq).2
  by_cases c : q = p
  · subst c; simp
  · rw [if_neg c, if_neg (by omega)]
section
variable {g : List Row} {cs : Zk.CS} {f : List Zk.Ms}
theorem Jms.set (J : Jms g cs f) (ok : OkG g) {p : Int} (hp : Ing g p) {m : Zk.Ms} (l : Zk.LftM (gm g) cs f p m) : Jms g cs (f.set p.toNat m) := by
  obtain ⟨v, r, e⟩ := J.rch
  have hway : ∀ w ∈ (gm g).ways p, Ing g w := ok.way _ (ing_nat hp).1
  refine ⟨by rw [List.length_set, J.len], fun i hi => ?_, Zk.upd v p (Zk.code cs m), .step r hp (lft_congr l.2 fun w hw => e w (hway w hw)), fun q hq => ?_⟩
  · rw [List.length_set] at hi
    rw [getD_setM _ _ _ _ (by rw [J.len]; exact (ing_nat hp).1)]
    split
    · exact l.1
    · exact J.ok i hi
  · unfold Zk.cAt Zk.upd
    rw [mAt_set J.len hp hq]
    split
    · rfl
    · exact e q hq
theorem Jms.le (J : Jms g cs f) {p : Int} (hp : Ing g p) : Zk.cAt cs f p ≤ Zk.wt cs := Zk.code_le (ok_at J.ok J.len hp)
theorem Jms.less (J : Jms g cs f) {p : Int} (hp : Ing g p) {m : Zk.Ms} (l : Zk.LftM (gm g) cs f p m) (h : Zk.cAt cs f p < Zk.code cs m) : tot cs (f.set p.toNat m) < tot cs f := by
  have h1 := tot_set (cs := cs) f p.toNat m (by rw [J.len]; exact (ing_nat hp).1)
  have h2 := Zk.code_le l.1
  have h3 : Zk.cAt cs f p = Zk.code cs (f.getD p.toNat none) := rfl
  omega
/-- the end -/
structure Fin5 (g : List Row) (cs : Zk.CS) (f : List Zk.Ms) : Prop where
  J : Jms g cs f
  S : Stb g cs f fun _ => True
theorem Fin5.pre (F : Fin5 g cs f) (dec : Zk.Dec cs) (ok : OkG g) : ∃ v, Zk.Rch (gm g) (Ing g) cs v ∧ Zk.Pre (gm g) (Ing g) cs v ∧ ∀ p, Ing g p → Zk.cAt cs f p = v p := by
  obtain ⟨v, r, e⟩ := F.J.rch
  refine ⟨v, r, fun p hp => ⟨by rw [← e p hp]; exact F.J.le hp, fun x hx => ?_⟩, e⟩
  have hway : ∀ w ∈ (gm g).ways p, Ing g w := ok.way _ (ing_nat hp).1
  obtain ⟨w, w1, w2⟩ := hx.1
  have b := Zk.beh_code dec ((gm g).num p) (ok_at F.J.ok F.J.len (hway w w1))
  have ec : Zk.code cs (Zk.beh cs ((gm g).num p) (Zk.mAt f w)) = x := by
    rw [b.2, w2, ← e w (hway w w1)]
    rfl
  have := F.S p hp trivial _ ⟨b.1, by rw [ec]; exact lft_congr hx fun z hz => (e z (hway z hz)).symm⟩
  rw [ec, e p hp] at this
  exact this
theorem Fin5.uniq {f2 : List Zk.Ms} (F : Fin5 g cs f) (F2 : Fin5 g cs f2) (dec : Zk.Dec cs) (ok : OkG g) : f = f2 := by
  obtain ⟨v, r1, p1, e1⟩ := F.pre dec ok
  obtain ⟨u, r2, p2, e2⟩ := F2.pre dec ok
  have l1 := F.J.len
  have l2 := F2.J.len
  apply List.ext_getElem (by rw [l1, l2])
  intro i h1 h2
  have hi : Ing g (i : Int) := ⟨by omega, by omega⟩
  have hway : ∀ p, Ing g p → ∀ w, w ∈ (gm g).ways p → Ing g w := fun p hp => ok.way _ (ing_nat hp).1
  have hne : ∀ p, Ing g p → (gm g).ways p ≠ [] := fun p hp => ok.ne _ (ing_nat hp).1
  have e := r1.eq hway hne p1 r2 p2 hi
  rw [← e1 _ hi, ← e2 _ hi] at e
  have := Zk.code_inj (ok_at F.J.ok l1 hi) (ok_at F2.J.ok l2 hi) e
  simpa [Zk.mAt, List.getD, h1, h2] using this
/-- None just where 1 wins -/
theorem Fin5.won {W0 W1 : Int → Prop} {st : Int → Option Int} (F : Fin5 g cs f) (c : CsOf g cs) (ok : OkG g) (f0 : Zk.Flw (gm g) (Ing g) 0 W0 st) (f1 : Zk.Flw (gm g) (Ing g) 1 W1 st) {p : Int} (hp : Ing g p) :
    (W0 p → Zk.mAt f p ≠ none) ∧ (W1 p → Zk.mAt f p = none) := by
  obtain ⟨v, r, pr, e⟩ := F.pre c.dec ok
  have hway : ∀ p, Ing g p → ∀ w, w ∈ (gm g).ways p → Ing g w := fun p hp => ok.way _ (ing_nat hp).1
  have hne : ∀ p, Ing g p → (gm g).ways p ≠ [] := fun p hp => ok.ne _ (ing_nat hp).1
  have okp := ok_at F.J.ok F.J.len hp
  have hL : ∀ p, Ing g p → p ∈ (List.range g.length).map fun i : Nat => (i : Int) := fun p hp => List.mem_map.mpr ⟨p.toNat, List.mem_range.mpr (ing_nat hp).1, (ing_nat hp).2⟩
  constructor
  · intro h0 z
    refine (Zk.code_none okp).mp z ?_
    have := r.lt f0 hL hway c.dec (fun oc hoc => ?_) (fun p hp ho => ?_) h0
    · rw [← e p hp] at this
      exact this
    · obtain ⟨c1, c2⟩ := c.cnt oc hoc
      refine ⟨c1, ?_⟩
      rw [c2, Int.toNat_natCast, List.filter_map, List.length_map]
      rfl
    · exact (c.mem _).mpr ⟨ho, p.toNat, (ing_nat hp).1, rfl⟩
  · intro h1
    refine (Zk.code_none okp).mpr fun lt => ?_
    obtain ⟨st', f'⟩ := pr.flw hway hne
    exact Zk.not_both hL f' f1 (fun p hp => ok.own _ (ing_nat hp).1) hway p ⟨hp, by rw [← e p hp]; exact lt⟩ h1
end
section
variable {K : PySem.W.Frag} {σ : L2.St} {H : Hp}
theorem FdA.setK {F : Addr} {f : List Zk.Ms} (h : FdA H F f) : ∃ vals : List V, H F = some (.lst vals) ∧ vals.length = f.length ∧ ∀ H1 m x i, Evl.Ex H H1 → MsV m x H1 → i < f.length → FdA (upd H1 F (.lst (vals.set i x))) F (f.set i m) := by
  obtain ⟨vals, h1, h2, h3⟩ := h
  refine ⟨vals, h1, h2, fun H1 m x i e hm hi => ⟨vals.set i x, upd_same, by simp [h2], fun j v hv => ?_⟩⟩
  show MsV ((f.set i m).getD j none) v _
  rw [getD_setM _ _ _ _ hi]
  by_cases c : j = i
  · subst c
    rw [List.getElem?_set_self (by omega)] at hv
    cases hv
    rw [if_pos rfl]
    exact MsV.keep _ _ _ _ _ hm (e _ _ h1)
  · rw [List.getElem?_set_ne (Ne.symm c)] at hv
    rw [if_neg c]
    exact MsV.keep _ _ _ _ _ (MsV.lasts _ _ _ e (h3 j v hv)) (e _ _ h1)
/-- it raises -/
def Rse (cls : Value) (H : Hp) (E : XK) : Prop := ∀ H', Evl.Ex H H' → E cls none H'
theorem Rse.go {cls : Value} {H H' : Hp} {E : XK} (h : Rse cls H E) (e : Evl.Ex H H') : Rse cls H' E := fun H2 e2 => h H2 (e.trans e2)
def RetF5 (g : List Row) (H : Hp) (Q : VK) : Prop := ∀ cs f p H', CsOf g cs → Fin5 g cs f → H p = none → Evl.Ex H H' → FdA H' p f → Q (.ref p) H'
def sp_measures (K : PySem.W.Frag) (C : Addr) : Sp := fun vs H Q E => ∃ a g rt rw, vs = [.ref a] ∧ GA K H a g rt rw ∧ OkG g ∧ (10 < g.length → Rse (.ref C) H E) ∧ (g.length ≤ 10 → RetF5 g H Q)
theorem jms_zero {g : List Row} {cs : Zk.CS} (c : CsOf g cs) : Jms g cs (List.replicate g.length (some (List.replicate cs.length 0))) := by
  have okz : Zk.OkL cs (List.replicate cs.length 0) := Zk.okL_zero fun oc hoc => by
    have := (c.cnt oc hoc).2
    omega
  refine ⟨by simp, fun i hi => ?_, _, .zero, fun p hp => ?_⟩
  · have hi' : i < g.length := by simpa using hi
    have : (List.replicate g.length (some (List.replicate cs.length (0 : Int)))).getD i none = some (List.replicate cs.length 0) := by simp [List.getD, hi']
    rw [this]
    exact okz
  · have := (ing_nat hp).1
    have : Zk.mAt (List.replicate g.length (some (List.replicate cs.length (0 : Int)))) p = some (List.replicate cs.length 0) := by simp [Zk.mAt, List.getD, this]
    unfold Zk.cAt
    rw [this]
    exact Zk.valL_zero cs
theorem ep_lifted {a c F : Addr} {p : Int} {g : List Row} {rt rw : Nat → Addr} {cs : Zk.CS} {f : List Zk.Ms} {ta : TA} (h : EvA ta σ H [.ref a, .ref c, .ref F, .int p]) (G : GA K H a g rt rw) (ok : OkG g) (C : CsA H c cs) (dec : Zk.Dec cs) (cl : cs.length ≤ 40) (A : FdA H F f) (J : Jms g cs f) (hp : Ing g p) :
    EvP (tCall (sp_lifted K) [] E0 ta) σ H fun v H' => ∃ m, Zk.LftM (gm g) cs f p m ∧ MsV m v H' := fun H1 e Q q =>
  tcall_of (h.mono e) fun H2 e2 => ⟨a, c, F, p, g, rt, rw, cs, f, rfl, G.mono (e.trans e2), ok, C.mono (e.trans e2), dec, cl, A.mono (e.trans e2), J.len, J.ok, hp, fun m v H3 e3 l hv => q v H3 (e2.trans e3) ⟨m, l, hv⟩⟩
theorem pure_measures (CT : Addr) (vs : List V) (H : Hp) (Q : VK) (E : XK) (h : sp_measures K CT vs H Q E) : t_measures K (sp_need_game K) (sp_counts_of K) (sp_lifted K) sp_is_more CT (fun cls d _ H' => E cls d H') { nx := fun _ H' => Q .non H', rt := Q } (start N_measures vs) H := by
  obtain ⟨a, g, rt, rw', rfl, G, ok, qr, q⟩ := h
  have l40 := ok.len
  refine q_drop1 (σ := [some (.ref a), none, none, none, none, none, none]) (ea_cons (ev_var rfl) ea_nil) fun H1 e1 => ⟨a, _, rfl, ex_l e1 G.lst, by rw [len_rng]; exact ok.len, by rw [len_rng]; exact (G.mono e1).rowP ok, fun H2 e2 => ?_⟩
  have e02 := e1.trans e2
  have lenA : ∀ (H' : Hp) (σ : L2.St), Evl.Ex H H' → σ[0]? = some (some (.ref a)) → Ev (tCB (rLenS K) (tCons (tVar 0) tNil)) σ H' (.int (g.length : Nat)) := fun H' σ e h => Ev.to (ev_len (ev_var h) (G.mono e).lst) (by rw [len_rng])
  refine q_when (σ := [some (.ref a), none, none, none, none, none, none]) (b := decide ((10 : Int) < (g.length : Nat))) (et_test (ev_op (lenA _ _ e02 rfl) ev_c rv_I0)) (fun z H3 e3 => ?_) (fun z H3 e3 => ?_)
  · exact qr (by have := of_decide_eq_true z; omega) H3 (e02.trans e3)
  have l10 : g.length ≤ 10 := by have := of_decide_eq_false z; omega
  have q := q l10
  have e03 := e02.trans e3
  refine q_call (σ := [some (.ref a), none, none, none, none, none, none]) (ea_cons (ev_var rfl) ea_nil) fun H4 e4 => ⟨a, g, rt, rw', rfl, G.mono (e03.trans e4), ok, fun cs c H5 hc hcn e5 C => ?_⟩
  have e05 := (e03.trans e4).trans e5
  show tSeq _ _ _ [some (.ref a), some (.ref c), none, none, none, none, none] H5
  have cl0 := hc.len
  have cl : cs.length ≤ 40 := by omega
  obtain ⟨z0, hz0⟩ : ∃ z0, z0 = List.replicate g.length (some (List.replicate cs.length (0 : Int))) := ⟨_, rfl⟩
  have zl : z0.length = g.length := by rw [hz0, List.length_replicate]
  refine q_asgLP (σ := [some (.ref a), some (.ref c), none, none, none, none, none]) (ep_lcLP (K := K) (j := 6) (vs := [6]) (P := fun i => MsV (z0.getD i none)) (fun _ => MsV.lasts) (fun _ => MsV.keep) (ev_var rfl) (G.mono e05).lst (by simp; omega) (fun _ => rfl) fun i x H6 e6 hx => ?_) fun F H6 hF e6 hF6 => ?_
  · have hi := (ga_at (a := a) (rw := rw') hx).1
    have : z0.getD i none = some (List.replicate cs.length 0) := by simp [hz0, List.getD, hi]
    rw [this]
    refine ep_tup (eu_tupN (EvL.to (el_rep (l := 0) (k' := 0) (k := (cs.length : Nat)) (el_lst (vs := [.int 0]) (by one_item) (by simp)) (ev_lenLs (C.mono e6) (ev_var rfl)) (by omega) (by omega)) (ys := iv (List.replicate cs.length 0)) (by
      unfold iv
      rw [List.map_replicate, Int.toNat_natCast]))) fun t H7 e7 h7 => msv_some h7
  have hF0 := fresh_back e05 hF
  have J0 := jms_zero hc
  rw [← hz0] at J0
  rw [len_rng, ← zl] at hF6
  have hF6' : FdA H6 F z0 := hF6
  refine q_asg (σ := [some (.ref a), some (.ref c), some (.ref F), none, none, none, none]) (v := .bl true) ev_c fun H7 e7 => ?_
  have cF : c ≠ F := by
    obtain ⟨xs, x1, _, _⟩ := C
    exact fresh_at hF x1
  have C7 := C.mono (e6.trans e7)
  refine q_while (fun n σ H' => ∃ (f : List Zk.Ms) (fr : Bool) (u4 u5 : Option V), σ = [some (.ref a), some (.ref c), some (.ref F), some (.bl fr), u4, u5, none] ∧ Evl.Ex H H' ∧ CsA H' c cs ∧ FdA H' F f ∧ Jms g cs f ∧ n = tot cs f + (if fr then 1 else 0) ∧ (fr = false → Stb g cs f fun _ => True)) (tot cs z0 + 1)
    ⟨z0, true, none, none, rfl, e05.trans (e6.trans e7), C7, hF6'.mono e7, J0, rfl, fun z => by cases z⟩ fun n σ H8 hw => ?_
  obtain ⟨f, fr, u4, u5, rfl, e8, C8, A8, J, hn, st⟩ := hw
  refine ⟨fr, et_B (ev_var rfl), fun z H9 e9 => ?_, fun z H9 e9 => ?_⟩
  · subst z
    refine ⟨fun σ H' => ∃ (f' : List Zk.Ms) (fr : Bool) (u4 u5 : Option V), σ = [some (.ref a), some (.ref c), some (.ref F), some (.bl fr), u4, u5, none] ∧ Evl.Ex H H' ∧ CsA H' c cs ∧ FdA H' F f' ∧ Jms g cs f' ∧ (fr = true → tot cs f' < tot cs f) ∧ tot cs f' ≤ tot cs f ∧ (fr = false → Stb g cs f' fun _ => True), fun σ2 H2 h => ?_, ?_⟩
    · obtain ⟨f', fr, u4, u5, h1, h2, h3, h4, h5, h6, h7, h8⟩ := h
      refine ⟨tot cs f' + (if fr then 1 else 0), ?_, f', fr, u4, u5, h1, h2, h3, h4, h5, rfl, h8⟩
      rw [hn]
      cases fr with
      | true => have := h6 rfl; simp; omega
      | false => simp; omega
    refine q_asg (σ := [some (.ref a), some (.ref c), some (.ref F), some (.bl true), u4, u5, none]) (v := .bl false) ev_c fun H10 e10 => ?_
    refine s_forR1 (σ := [some (.ref a), some (.ref c), some (.ref F), some (.bl false), u4, u5, none]) (n := (g.length : Nat)) (ea_cons (lenA _ _ (e8.trans (e9.trans e10)) rfl) ea_nil) (by omega)
      (fun i σ H' => ∃ (f' : List Zk.Ms) (fr : Bool) (u4 u5 : Option V), σ = [some (.ref a), some (.ref c), some (.ref F), some (.bl fr), u4, u5, none] ∧ Evl.Ex H H' ∧ CsA H' c cs ∧ FdA H' F f' ∧ Jms g cs f' ∧ (fr = true → tot cs f' < tot cs f) ∧ tot cs f' ≤ tot cs f ∧ (fr = false → Stb g cs f' fun p => p < (i : Int)))
      (fun H11 e11 => ⟨f, false, u4, u5, rfl, e8.trans ((e9.trans e10).trans e11), C8.mono ((e9.trans e10).trans e11), A8.mono ((e9.trans e10).trans e11), J, (fun z => by cases z), Nat.le_refl _, fun _ p hp hlt => by
        have := hp.1
        exact absurd hlt (by omega)⟩) (fun i σ H11 hi p' => ?_) (fun σ H11 p' => ?_)
    · clear u4 u5 A8 C8 J hn st
      obtain ⟨f', fr, u4, u5, rfl, e11, C11, A11, J, t1, t2, st⟩ := p'
      have hip : Ing g (i : Int) := ⟨by omega, hi⟩
      refine q_asgP (σ := [some (.ref a), some (.ref c), some (.ref F), some (.bl fr), some (.int (i : Int)), u5, none]) (ep_lifted (ea_cons (ev_var rfl) (ea_cons (ev_var rfl) (ea_cons (ev_var rfl) (ea_cons (ev_var rfl) ea_nil)))) (G.mono e11) ok C11 hc.dec cl A11 J hip) fun v H12 e12 hv => ?_
      obtain ⟨m, lm, hv⟩ := hv
      have A12 := A11.mono e12
      obtain ⟨w, hw, ew⟩ := LsP.ix (K := K) A12 (i := i) (by rw [J.len]; omega)
      have hw' : MsV (Zk.mAt f' (i : Int)) w H12 := by
        show MsV (f'.getD ((i : Int)).toNat none) w H12
        rw [Int.toNat_natCast]
        exact hw
      have okw := ok_at J.ok J.len hip
      refine s_when (σ := [some (.ref a), some (.ref c), some (.ref F), some (.bl fr), some (.int (i : Int)), some v, none]) (b := Zk.moreM m (Zk.mAt f' (i : Int))) (et_B (ev_call0 (ea_cons (ev_var rfl) (ea_cons (ew (Evl.Ex.refl _) (ev_var rfl) (ev_var rfl)) ea_nil)) (SpV.more hv hw'))) (fun z H13 e13 => ?_) (fun z H13 e13 => ?_)
      · rw [Zk.moreM_code lm.1 okw] at z
        have lt : Zk.cAt cs f' (i : Int) < Zk.code cs m := of_decide_eq_true z
        obtain ⟨vals, h1, h2, h3⟩ := FdA.setK (A12.mono e13)
        refine q_setL (σ := [some (.ref a), some (.ref c), some (.ref F), some (.bl fr), some (.int (i : Int)), some v, none]) (v := v) h1 (ev_var rfl) (ev_var rfl) (ev_var rfl) (by rw [h2, J.len]; omega) fun H14 e14 => ?_
        have A14 := h3 H14 m v i e14 (MsV.lasts _ _ _ (e13.trans e14) hv) (by rw [J.len]; omega)
        have C14 : CsA (upd H14 F (.lst (vals.set i v))) c cs := LsP.keep (fun _ => PrV.keep) (C11.mono (e12.trans (e13.trans e14))) (e14 _ _ h1) cF
        have J14 := J.set ok hip lm
        rw [Int.toNat_natCast] at J14
        have less := J.less hip lm lt
        rw [Int.toNat_natCast] at less
        refine s_asg (σ := [some (.ref a), some (.ref c), some (.ref F), some (.bl fr), some (.int (i : Int)), some v, none]) (v := .bl true) ev_c fun H15 e15 => ⟨f'.set i m, true, _, _, rfl, (Evl.Ex.mut (e11.trans (e12.trans (e13.trans e14))) hF0).trans e15, C14.mono e15, A14.mono e15, J14, fun _ => by omega, by omega, fun z => by cases z⟩
      · rw [Zk.moreM_code lm.1 okw] at z
        have nlt : ¬ Zk.cAt cs f' (i : Int) < Zk.code cs m := of_decide_eq_false z
        refine ⟨f', fr, _, _, rfl, e11.trans (e12.trans e13), C11.mono (e12.trans e13), A12.mono e13, J, t1, t2, fun z p hp hlt m' lm' => ?_⟩
        by_cases c : p < (i : Int)
        · exact st z p hp c m' lm'
        · have : p = (i : Int) := by omega
          subst this
          have := lm.2.le lm'.2 fun w hw => ⟨Nat.le_refl _, J.le (ok.way _ (ing_nat hp).1 w hw)⟩
          have := lm'.2.le lm.2 fun w hw => ⟨Nat.le_refl _, J.le (ok.way _ (ing_nat hp).1 w hw)⟩
          omega
    · obtain ⟨f', fr, u4, u5, h1, h2, h3, h4, h5, h6, h7, h8⟩ := p'
      exact ⟨f', fr, u4, u5, h1, h2, h3, h4, h5, h6, h7, fun z p hp _ => h8 z p hp (by have := hp.2; omega)⟩
  · subst z
    exact s_ret (ev_var rfl) fun H10 e10 => q cs f F H10 hc ⟨J, st rfl⟩ hF0 (e8.trans (e9.trans e10)) (A8.mono (e9.trans e10))
end
end Gp
namespace Gp
open PySem L2 Evl
local macro_rules | `(tactic| one_sign) => `(tactic| first | exact Evl.Ex.refl _ | assumption | exact Evl.Ex.new (by assumption) | (refine Evl.Ex.trans ?_ (by assumption); one_sign) | (refine Evl.Ex.trans ?_ (Evl.Ex.new (by assumption)); one_sign))
local macro_rules | `(tactic| one_place) => `(tactic| first | assumption | exact upd_same | (refine Evl.ex_l ?_ (by assumption); one_sign) | (refine Evl.ex_t ?_ (by assumption); one_sign) | (refine Evl.sq_of ?_; one_place) | (refine Evl.st_of ?_; one_place) | (refine (show Evl.Ex _ _ from ?_) _ _ (by assumption); one_sign))
local macro_rules | `(tactic| one_item) => `(tactic| first | ((with_reducible apply ev_var); rfl) | (with_reducible exact ev_c) | assumption | (refine Ev.mono ?_ (by assumption); one_sign) | ((with_reducible apply ev_op) <;> one_item) | (with_reducible exact rv_I0) | ((with_reducible refine rv_mod ?_); omega) | ((with_reducible refine rv_div ?_ ?_) <;> omega) | ((with_reducible refine rv_mulL ?_); omega) | ((with_reducible refine rv_mulR ?_); omega) | ((with_reducible refine rv_pow ?_); decide) | ((with_reducible refine rv_eq ?_); rfl) | ((with_reducible refine rv_ne ?_); rfl) | (with_reducible exact rv_isN) | (with_reducible exact rv_notN) | ((with_reducible apply rv_inI); one_place) | ((with_reducible apply rv_niI); one_place) | ((with_reducible apply rv_ixT) <;> (first | rfl | one_place)) | ((with_reducible apply ev_len) <;> (first | one_item | one_place)) | ((with_reducible apply ev_lenT) <;> (first | one_item | one_place)) | (with_reducible exact ea_nil) | ((with_reducible apply ea_cons) <;> one_item) | ((with_reducible apply et_test); one_item) | ((with_reducible apply et_B); one_item) | (with_reducible exact et_yes) | ((with_reducible apply et_not); one_item) | ((with_reducible apply ev_chain) <;> one_item) | ((with_reducible apply ev_notV); one_item))
section
variable {K : PySem.W.Frag} {σ : L2.St} {H : Hp}
theorem LsP.imp {H : Hp} {p : Addr} {n : Nat} {P R : Nat → V → Hp → Prop} (h : LsP H p n P) (k : ∀ i v, i < n → P i v H → R i v H) : LsP H p n R := by
  obtain ⟨xs, h1, h2, h3⟩ := h
  exact ⟨xs, h1, h2, fun i v hv => k i v (by rw [← h2]; exact (List.getElem?_eq_some_iff.mp hv).1) (h3 i v hv)⟩
theorem CsA.push {H H' : Hp} {p : Addr} {cs : Zk.CS} {oc : Int × Int} {y : V} (h : CsA H p cs) (e : Evl.Ex H H') (py : PrV oc y H') : ∃ acc, H' p = some (.lst acc) ∧ acc.length = cs.length ∧ CsA (upd H' p (.lst (acc ++ [y]))) p (cs ++ [oc]) := by
  have h' : LsP H p cs.length fun i => PrV ((cs ++ [oc]).getD i (0, 0)) := LsP.imp h fun i v hi hv => by
    have : (cs ++ [oc]).getD i (0, 0) = cs.getD i (0, 0) := by
      rw [List.getD, List.getD, List.getElem?_append_left hi]
    rw [this]
    exact hv
  obtain ⟨acc, a1, a2, a3⟩ := lsp_push (fun _ => PrV.lasts) (fun _ => PrV.keep) h' e (y := y) (by
    have : (cs ++ [oc]).getD cs.length (0, 0) = oc := by simp [List.getD]
    show PrV ((cs ++ [oc]).getD cs.length (0, 0)) y H'
    rw [this]
    exact py)
  refine ⟨acc, a1, a2, ?_⟩
  show LsP _ _ _ _
  rw [List.length_append]
  exact a3
theorem q_forRevSrc {D : Ends} {tz tu : TS} {te : TE} {g : TG} (k : te σ H fun x H1 => tFor (iRev K (tCons (tC x) tNil)) g tu { D with nx := tz D } σ H1) : tSeq (tFor (iRev K (tCons te tNil)) g tu) tz D σ H := k
theorem q_forSorted {D : Ends} {tz tu : TS} {ns : List Int} {ta : TE} {j : Nat} (h : EvL ta σ H (iv ns)) (hl : ns.length < 64) (k : ∀ ms M H1, ms.Pairwise (· < ·) → (∀ k, k ∈ ms ↔ k ∈ ns) → H M = none → Evl.Ex H H1 → H1 M = some (.lst (iv ms)) →
    ∃ Pv : Nat → L2.St → Hp → Prop, Pv 0 σ H1 ∧ (∀ i σ H, Pv i σ H → SqL K H M (iv ms)) ∧ (∀ i x σ' H', i < ms.length → ms[ms.length - 1 - i]? = some x → Pv i σ' H' → tu { D with nx := Pv (i + 1), ct := Pv (i + 1), bk := tz D } (σ'.set j (some (.int x))) H') ∧ ∀ σ' H', Pv ms.length σ' H' → tz D σ' H') :
    tSeq (tFor (iRev K (tCons (tSortedSet K ta) tNil)) (gName j) tu) tz D σ H := by
  refine q_forRevSrc ?_
  exact el_sortedSet h hl (Evl.Ex.refl _) fun ms M H1 pw mm hM e1 hM1 => by
    obtain ⟨Pv, p0, pq, ps, pd⟩ := k ms M H1 pw mm hM e1 hM1
    exact ⟨M, iv ms, rfl, sq_of hM1, RT.for_Itv (xs := iv ms) (g := gName j) (D := { D with nx := tz D }) Pv p0 pq (fun i x σ' H' hi hx p => by
      rw [List.length_map] at hi hx
      obtain ⟨n, hn, rfl⟩ := iv_at hx
      exact ps i n σ' H' hi hn p) (fun σ' H' p => pd σ' H' (by rw [List.length_map] at p; exact p))⟩
theorem rv_gtRk {cs : Zk.CS} {u v : V} {a b : Zk.Ms} (oa : Zk.OkM cs a) (ob : Zk.OkM cs b) (hu : RkV a u H) (hv : RkV b v H) : RV (rGtD K) u v H (.bl (decide (Zk.code cs b < Zk.code cs a))) := fun H1 e Q q => by
  refine ⟨_, _, RkV.dp (RkV.lasts _ _ _ e hu), RkV.dp (RkV.lasts _ _ _ e hv), alike_rk a b, ?_, depth_rk a, ?_⟩
  · cases a <;> (intro z; cases z)
  · rw [lt_rk ob oa]
    exact q H1 (Evl.Ex.refl _)
theorem q_sorted {D : Ends} {tz : TS} {te : TE} {i : Nat} {cs : Zk.CS} {L : List Zk.Ms} (h : EvLP te σ H L.length (fun i => RkV (L.getD i none))) (ok : ∀ m ∈ L, Zk.OkM cs m)
    (k : ∀ p H1 (zs : List (V × Zk.Ms)), H p = none → Evl.Ex H H1 → H1 p = some (.lst (zs.map (·.1))) → zs.length = L.length → (∀ z ∈ zs, z.2 ∈ L ∧ RkV z.2 z.1 H1) → (∀ m ∈ L, ∃ z ∈ zs, z.2 = m) → zs.Pairwise (fun a b => Zk.code cs a.2 ≤ Zk.code cs b.2) → tz D (σ.set i (some (.ref p))) H1) :
    tSeq (tAsg (tCB (rSortedD K) (tCons te tNil)) (gName i)) tz D σ H := h H (Evl.Ex.refl _) _ fun a H1 ha e1 hL => by
  obtain ⟨vals, h1, h2, h3⟩ := hL
  obtain ⟨ws, hws⟩ : ∃ ws, ws = vals.zip L := ⟨_, rfl⟩
  have wl : ws.length = L.length := by rw [hws, List.length_zip, h2, Nat.min_self]
  have wf : ws.map (·.1) = vals := by rw [hws]; exact List.map_fst_zip (by omega)
  have wn : ws.map (·.2) = L := by rw [hws]; exact List.map_snd_zip (by omega)
  have wat : ∀ z ∈ ws, z.2 ∈ L ∧ RkV z.2 z.1 H1 := by
    intro z hz
    refine ⟨by rw [← wn]; exact List.mem_map.mpr ⟨z, hz, rfl⟩, ?_⟩
    obtain ⟨j, hj⟩ := List.mem_iff_getElem?.mp hz
    rw [hws, List.getElem?_zip_eq_some] at hj
    have := h3 j z.1 hj.1
    have e : L.getD j none = z.2 := by rw [List.getD, hj.2]; rfl
    have this : RkV (L.getD j none) z.1 H1 := this
    rw [e] at this
    exact this
  have bm : (ws.map fun z => (z.1, dRk z.2)).map (·.1) = vals := by
    rw [List.map_map, ← wf]
    rfl
  have srt : ((ws.map fun z => (z.1, dRk z.2)).mergeSort (PySem.W.dataLe false (·.2))).map (·.1) = (ws.mergeSort (PySem.W.dataLe false fun z => dRk z.2)).map (·.1) := by
    rw [← PySem.W.sort_maps (r := PySem.W.dataLe false fun z : V × Zk.Ms => dRk z.2) (fun z => (z.1, dRk z.2)) (fun _ _ _ _ => rfl), List.map_map]
    rfl
  refine ⟨a, ws.map fun z => (z.1, dRk z.2), rfl, by rw [bm]; exact sq_of h1, fun b hb => ?_, ?_, ?_, fun b hb => ?_, fun p hp => ?_⟩
  · obtain ⟨z, hz, rfl⟩ := List.mem_map.mp hb
    exact RkV.dp (wat z hz).2
  · intro d hd d' hd'
    simp only [List.map_map, List.mem_map] at hd hd'
    obtain ⟨z, _, rfl⟩ := hd
    obtain ⟨z', _, rfl⟩ := hd'
    exact alike_rk _ _
  · refine .inl fun d hd => ?_
    simp only [List.map_map, List.mem_map] at hd
    obtain ⟨z, _, rfl⟩ := hd
    show ∃ x r, dRk z.2 = _
    cases z.2 with
    | none => exact ⟨_, _, rfl⟩
    | some x => exact ⟨_, _, rfl⟩
  · obtain ⟨z, hz, rfl⟩ := List.mem_map.mp hb
    exact depth_rk _
  · rw [srt]
    obtain ⟨zs, hzs⟩ : ∃ zs, zs = ws.mergeSort (PySem.W.dataLe false fun z => dRk z.2) := ⟨_, rfl⟩
    rw [← hzs]
    have perm : zs.Perm ws := by rw [hzs]; exact List.mergeSort_perm _ _
    have pw : zs.Pairwise (fun a b => PySem.W.dataLe false (fun z : V × Zk.Ms => dRk z.2) a b = true) := by
      rw [hzs]
      exact PySem.W.sort_pairwise (PySem.W.sortLe_total _ _ _) _
    refine k p _ zs (fresh_back e1 hp) (e1.trans (Evl.Ex.new hp)) upd_same (by rw [perm.length_eq, wl]) (fun z hz => ?_) (fun m hm => ?_) ?_
    · have := wat z (perm.mem_iff.mp hz)
      exact ⟨this.1, RkV.lasts _ _ _ (Evl.Ex.new hp) this.2⟩
    · rw [← wn] at hm
      obtain ⟨z, hz, rfl⟩ := List.mem_map.mp hm
      exact ⟨z, perm.mem_iff.mpr hz, rfl⟩
    · refine pw.imp_of_mem fun {x y} hx hy hxy => ?_
      have h2 : (!PySem.W.dataLt (dRk y.2) (dRk x.2)) = true := by
        rw [PySem.W.dataLe_eq] at hxy
        exact hxy
      rw [lt_rk (ok _ (wat y (perm.mem_iff.mp hy)).1) (ok _ (wat x (perm.mem_iff.mp hx)).1)] at h2
      have : ¬ Zk.code cs y.2 < Zk.code cs x.2 := by simpa using h2
      omega
/-- the value that a rank holds -/
theorem ev_unrank {tb : TE} {m : Zk.Ms} {x : V} (hx : RkV m x H) (h : ∀ H', Evl.Ex H H' → Ev tb σ H' x) : ∃ v, MsV m v H ∧ Ev (tOp (rIxL K) (tLst (tCons (tOp (rIxT K) tb (tC (.int 1))) (tCons (tC .non) tNil))) (tOp (rIxT K) tb (tC (.int 0)))) σ H v := by
  obtain ⟨r, y, k, rfl, h2, h3⟩ := hx
  have e1 : ∀ H', Evl.Ex H H' → Ev (tOp (rIxT K) tb (tC (.int 1))) σ H' y := fun H' e => ev_op (h H' e) ev_c (rv_ixT (st_of (e _ _ h2)) rfl)
  have e0 : ∀ H', Evl.Ex H H' → Ev (tOp (rIxT K) tb (tC (.int 0))) σ H' (.int k) := fun H' e => ev_op (h H' e) ev_c (rv_ixT (st_of (e _ _ h2)) rfl)
  have el : EvL (tLst (tCons (tOp (rIxT K) tb (tC (.int 1))) (tCons (tC .non) tNil))) σ H [y, .non] := el_lst (ea_cons (e1 _ (Evl.Ex.refl _)) (ea_cons ev_c ea_nil)) (by simp)
  rcases h3 with ⟨rfl, rfl, _⟩ | ⟨rfl, h, _⟩
  · exact ⟨.non, .inl ⟨rfl, rfl⟩, ev_opL1 el (fun H' e => e0 H' e) fun p H' hp e => rv_ixL (sq_of hp) rfl⟩
  · exact ⟨y, h, ev_opL1 el (fun H' e => e0 H' e) fun p H' hp e => rv_ixL (sq_of hp) rfl⟩
end
end Gp
namespace Gp
open PySem L2 Evl
local macro_rules | `(tactic| one_sign) => `(tactic| first | exact Evl.Ex.refl _ | assumption | exact Evl.Ex.new (by assumption) | (refine Evl.Ex.trans ?_ (by assumption); one_sign) | (refine Evl.Ex.trans ?_ (Evl.Ex.new (by assumption)); one_sign))
local macro_rules | `(tactic| one_place) => `(tactic| first | assumption | exact upd_same | (refine Evl.ex_l ?_ (by assumption); one_sign) | (refine Evl.ex_t ?_ (by assumption); one_sign) | (refine Evl.sq_of ?_; one_place) | (refine Evl.st_of ?_; one_place) | (refine (show Evl.Ex _ _ from ?_) _ _ (by assumption); one_sign))
local macro_rules | `(tactic| one_item) => `(tactic| first | ((with_reducible apply ev_var); rfl) | (with_reducible exact ev_c) | assumption | (refine Ev.mono ?_ (by assumption); one_sign) | ((with_reducible apply ev_op) <;> one_item) | (with_reducible exact rv_I0) | ((with_reducible refine rv_mod ?_); omega) | ((with_reducible refine rv_div ?_ ?_) <;> omega) | ((with_reducible refine rv_mulL ?_); omega) | ((with_reducible refine rv_mulR ?_); omega) | ((with_reducible refine rv_pow ?_); decide) | ((with_reducible refine rv_eq ?_); rfl) | ((with_reducible refine rv_ne ?_); rfl) | (with_reducible exact rv_isN) | (with_reducible exact rv_notN) | ((with_reducible apply rv_inI); one_place) | ((with_reducible apply rv_niI); one_place) | ((with_reducible apply rv_ixT) <;> (first | rfl | one_place)) | ((with_reducible apply ev_len) <;> (first | one_item | one_place)) | ((with_reducible apply ev_lenT) <;> (first | one_item | one_place)) | (with_reducible exact ea_nil) | ((with_reducible apply ea_cons) <;> one_item) | ((with_reducible apply et_test); one_item) | ((with_reducible apply et_B); one_item) | (with_reducible exact et_yes) | ((with_reducible apply et_not); one_item) | ((with_reducible apply ev_chain) <;> one_item) | ((with_reducible apply ev_notV); one_item))
theorem atI_m1 {α : Type} {xs : List α} {x : α} (h : xs.getLast? = some x) : atI xs (-1) = some x := by
  obtain ⟨ys, rfl⟩ := List.getLast?_eq_some_iff.mp h
  exact atI_last ys x
def oddC (g : List Row) (ns : List Int) : Zk.CS := (ns.filter fun k => decide (k % 2 = 1)).map fun k => (k, (cntN g k : Int))
section
variable {K : PySem.W.Frag}
def sp_law_measures (K : PySem.W.Frag) : Sp := fun vs H Q _ => ∃ a g rt rw, vs = [.ref a] ∧ GA K H a g rt rw ∧ OkG g ∧ RetF5 g H Q
theorem pure_law_measures (vs : List V) (H : Hp) (Q : VK) (E : XK) (h : sp_law_measures K vs H Q E) : t_law_measures K (sp_behind K) (sp_law_rank K) { nx := fun _ H' => Q .non H', rt := Q } (start N_law_measures vs) H := by
  obtain ⟨a, g, rt, rw', rfl, G, ok, q⟩ := h
  have l40 := ok.len
  have lenA : ∀ (H' : Hp) (σ : L2.St), Evl.Ex H H' → σ[0]? = some (some (.ref a)) → Ev (tCB (rLenS K) (tCons (tVar 0) tNil)) σ H' (.int (g.length : Nat)) := fun H' σ e h => Ev.to (ev_len (ev_var h) (G.mono e).lst) (by rw [len_rng])
  refine q_asgL (σ := [some (.ref a), none, none, none, none, none, none, none, none, none, none, none]) (el_lst ea_nil (by decide)) fun C H1 hC e1 hC1 => ?_
  have src : EvL (tLc (iList K (tVar 0)) (gName 9) tYes (tOp (rIxT K) (tVar 9) (tC (.int 1))) [9]) [some (.ref a), some (.ref C), none, none, none, none, none, none, none, none, none, none] H1 (iv ((List.range g.length).map fun i => (rowN g i).2.1)) := by
    refine EvL.to (el_lcL (fun i => true) (fun i => .int (rowN g i).2.1) (ev_var rfl) (G.mono e1).lst (by simp; omega) (fun _ => rfl) (fun i x H1 e hx => et_yes) fun i x H2 e hx _ => ?_) ?_
    · obtain ⟨hi, rfl⟩ := ga_at (a := a) (rw := rw') hx
      exact ev_op (ev_var rfl) ev_c (rv_ixT (ex_t (e1.trans e) (G.row i hi)) rfl)
    · rw [given_all, len_rng]
      unfold iv
      simp
  refine q_forSorted (σ := [some (.ref a), some (.ref C), none, none, none, none, none, none, none, none, none, none]) src (by simp; omega) fun ms M H2 pw mm hM e2 hM2 => ?_
  have MC : C ≠ M := fresh_at hM hC1
  have hm : ∀ k, k ∈ ms ↔ ∃ i, i < g.length ∧ (rowN g i).2.1 = k := by
    intro k
    rw [mm k, List.mem_map]
    constructor
    · rintro ⟨i, hi, rfl⟩
      exact ⟨i, List.mem_range.mp hi, rfl⟩
    · rintro ⟨i, hi, rfl⟩
      exact ⟨i, List.mem_range.mpr hi, rfl⟩
  have ml : ms.length ≤ 40 := by
    have := Zk.nodup_len ms ((List.range g.length).map fun i => (rowN g i).2.1) (pw.imp fun {a b} h z => by omega) fun x hx => (mm x).mp hx
    simp at this
    omega
  refine ⟨fun i σ H' => (∃ u, σ = [some (.ref a), some (.ref C), u, none, none, none, none, none, none, none, none, none]) ∧ Evl.Ex H H' ∧ H' M = some (.lst (iv ms)) ∧ CsA H' C (oddC g (ms.reverse.take i)), ⟨⟨none, rfl⟩, e1.trans e2, hM2, lsp_nil (e2 _ _ hC1)⟩, fun i σ H' p => sq_of p.2.2.1, fun i x σ H3 hi hx p => ?_, fun σ H3 p => ?_⟩
  · obtain ⟨⟨u, rfl⟩, e3, hM3, C3⟩ := p
    have hr : ms.reverse[i]? = some x := by rw [List.getElem?_reverse hi]; exact hx
    have tk : ms.reverse.take (i + 1) = ms.reverse.take i ++ [x] := take_succ_of hr
    refine s_when (σ := [some (.ref a), some (.ref C), some (.int x), none, none, none, none, none, none, none, none, none]) (b := decide (x % 2 = 1)) (et_test (Ev.to (ev_op (ev_op (ev_var rfl) ev_c (rv_mod (by omega))) ev_c (rv_eq rfl)) (by simp))) (fun z H4 e4 => ?_) (fun z H4 e4 => ?_)
    · have C4 := C3.mono e4
      obtain ⟨acc, a1, a2, _⟩ := id C4
      have al : acc.length ≤ 40 := by
        rw [a2]
        unfold oddC
        rw [List.length_map]
        refine Nat.le_trans (List.length_filter_le _ _) ?_
        rw [List.length_take, List.length_reverse]
        omega
      refine s_appU (σ := [some (.ref a), some (.ref C), some (.int x), none, none, none, none, none, none, none, none, none]) a1 (ev_var rfl) (eu_tup (vs := [.int x, .int (cntN g x : Nat)]) (ea_cons (ev_var rfl) (ea_cons (ev_cnt (G.mono (e3.trans e4)) l40 (ev_var rfl) (fun _ => rfl) (fun _ => rfl) fun _ _ _ => ev_var rfl) ea_nil)) (by simp)) (by omega) fun t H5 ht e5 h5 => ?_
      obtain ⟨acc', b1, b2, b3⟩ := CsA.push (oc := (x, (cntN g x : Int))) (y := .ref t) C4 e5 ⟨t, rfl, h5⟩
      have : acc' = acc := by
        have := e5 _ _ a1
        rw [b1] at this
        cases this
        rfl
      subst this
      refine ⟨⟨_, rfl⟩, Evl.Ex.mut (e3.trans (e4.trans e5)) hC, by rw [upd_ne MC.symm]; exact (e4.trans e5) _ _ hM3, ?_⟩
      have : oddC g (ms.reverse.take (i + 1)) = oddC g (ms.reverse.take i) ++ [(x, (cntN g x : Int))] := by
        unfold oddC
        rw [tk, List.filter_append, List.map_append]
        congr 1
        have zz : x % 2 = 1 := of_decide_eq_true z
        simp [zz]
      rw [this]
      exact b3
    · refine ⟨⟨_, rfl⟩, e3.trans e4, e4 _ _ hM3, ?_⟩
      have : oddC g (ms.reverse.take (i + 1)) = oddC g (ms.reverse.take i) := by
        unfold oddC
        rw [tk, List.filter_append, List.map_append]
        have zz : ¬ x % 2 = 1 := of_decide_eq_false z
        simp [zz]
      rw [this]
      exact C3.mono e4
  obtain ⟨⟨u2, rfl⟩, e3, hM3, C3⟩ := p
  clear hM3
  rw [List.take_of_length_le (by rw [List.length_reverse]; exact Nat.le_refl _)] at C3
  have hc : CsOf g (oddC g ms.reverse) := by
    have : oddC g ms.reverse = ((ms.filter fun k => decide (k % 2 = 1)).reverse).map fun k => (k, (cntN g k : Int)) := by
      unfold oddC
      rw [List.filter_reverse]
    rw [this]
    refine csOf_mk (pw.filter _) fun k => ?_
    rw [List.mem_filter, hm k]
    constructor
    · rintro ⟨h1, h2⟩
      exact ⟨of_decide_eq_true h2, h1⟩
    · rintro ⟨h1, h2⟩
      exact ⟨h2, decide_eq_true h1⟩
  generalize oddC g ms.reverse = cs at C3 hc
  have cl0 := hc.len
  have cl : cs.length ≤ 40 := by omega
  obtain ⟨z0, hz0⟩ : ∃ z0, z0 = List.replicate g.length (some (List.replicate cs.length (0 : Int))) := ⟨_, rfl⟩
  have zl : z0.length = g.length := by rw [hz0, List.length_replicate]
  refine q_asgLP (σ := [some (.ref a), some (.ref C), u2, none, none, none, none, none, none, none, none, none]) (ep_lcLP (K := K) (j := 9) (vs := [9]) (P := fun i => MsV (z0.getD i none)) (fun _ => MsV.lasts) (fun _ => MsV.keep) (ev_var rfl) (G.mono e3).lst (by simp; omega) (fun _ => rfl) fun i x H6 e6 hx => ?_) fun F H6 hF e6 hF6 => ?_
  · have hi := (ga_at (a := a) (rw := rw') hx).1
    have : z0.getD i none = some (List.replicate cs.length 0) := by simp [hz0, List.getD, hi]
    rw [this]
    obtain ⟨xs, x1, x2, _⟩ := C3.mono e6
    refine ep_tup (eu_tupN (EvL.to (el_lcL (j := 10) (vs := [10]) (fun _ => true) (fun _ => .int 0) (ev_var rfl) (sq_of x1) (by omega) (fun _ => rfl) (fun _ _ _ _ _ => et_yes) fun _ _ _ _ _ _ => ev_c) (ys := iv (List.replicate cs.length 0)) (by
      rw [given_all, x2]
      unfold iv
      rw [List.map_replicate, List.map_const', List.length_range]))) fun t H7 e7 h7 => msv_some h7
  have hF0 := fresh_back e3 hF
  have J0 := jms_zero hc
  rw [← hz0] at J0
  rw [len_rng, ← zl] at hF6
  have hF6' : FdA H6 F z0 := hF6
  refine q_asg (σ := [some (.ref a), some (.ref C), u2, some (.ref F), none, none, none, none, none, none, none, none]) (v := .int ((g.length : Nat) - 1)) (ev_op (lenA _ _ (e3.trans e6) rfl) ev_c rv_I0) fun H7 e7 => ?_
  have cF : C ≠ F := by
    obtain ⟨xs, x1, _, _⟩ := C3
    exact fresh_at hF x1
  have C7 := C3.mono (e6.trans e7)
  refine q_while (fun n σ H' => ∃ (f : List Zk.Ms) (k : Nat) (pl : Int) (u2 u5 u6 u7 u8 : Option V), σ = [some (.ref a), some (.ref C), u2, some (.ref F), some (.int pl), u5, u6, u7, u8, none, none, none] ∧ pl = (k : Int) - 1 ∧ k ≤ g.length ∧ Evl.Ex H H' ∧ CsA H' C cs ∧ FdA H' F f ∧ Jms g cs f ∧ n = tot cs f * (g.length + 1) + k ∧ Stb g cs f fun p => (k : Int) ≤ p) (tot cs z0 * (g.length + 1) + g.length)
    ⟨z0, g.length, _, u2, none, none, none, none, rfl, rfl, Nat.le_refl _, e3.trans (e6.trans e7), C7, hF6'.mono e7, J0, rfl, fun p hp hk => absurd hp.2 (by omega)⟩ fun n σ H8 hw => ?_
  clear J0 hF6 hF6' C7 C3 hz0 zl e7 e6 hM2 hC1 hF hM e2
  obtain ⟨f, k, pl, u2, u5, u6, u7, u8, rfl, hpl, hk, e8, C8, A8, J, hn, st⟩ := hw
  refine ⟨decide ((0 : Int) ≤ pl), et_test (ev_op (ev_var rfl) ev_c rv_I0), fun z H9 e9 => ?_, fun z H9 e9 => ?_⟩
  · have z' := of_decide_eq_true z
    have hip : Ing g pl := ⟨z', by omega⟩
    obtain ⟨hp1, hp2⟩ := ing_nat hip
    have hown : (gm g).own pl = 0 ∨ (gm g).own pl = 1 := ok.own _ hp1
    have hne : (gm g).ways pl ≠ [] := ok.ne _ hp1
    have hway : ∀ w ∈ (gm g).ways pl, Ing g w := ok.way _ hp1
    have hfew : ((gm g).ways pl).length ≤ 1000 := ok.few _ hp1
    refine ⟨fun σ H' => ∃ (f' : List Zk.Ms) (k' : Nat) (pl : Int) (u2 u5 u6 u7 u8 : Option V), σ = [some (.ref a), some (.ref C), u2, some (.ref F), some (.int pl), u5, u6, u7, u8, none, none, none] ∧ pl = (k' : Int) - 1 ∧ k' ≤ g.length ∧ Evl.Ex H H' ∧ CsA H' C cs ∧ FdA H' F f' ∧ Jms g cs f' ∧ tot cs f' * (g.length + 1) + k' < n ∧ Stb g cs f' fun p => (k' : Int) ≤ p, fun σ2 H2 h => ?_, ?_⟩
    · obtain ⟨f', k', pl, u2, u5, u6, u7, u8, h1, h2, h3, h4, h5, h6, h7, h8, h9⟩ := h
      exact ⟨_, h8, f', k', pl, u2, u5, u6, u7, u8, h1, h2, h3, h4, h5, h6, h7, rfl, h9⟩
    have G9 := G.mono (e8.trans e9)
    refine q_asgG (σ := [some (.ref a), some (.ref C), u2, some (.ref F), some (.int pl), u5, u6, u7, u8, none, none, none]) (ev_row G9 (ev_var rfl) (ev_var rfl) hip) fun H10 e10 => g_trip (ex_t e10 (G9.row _ hp1)) ?_
    show tSeq _ _ _ [some (.ref a), some (.ref C), some (.int ((gm g).num pl)), some (.ref F), some (.int pl), some (.int ((gm g).own pl)), some (.ref (rw' pl.toNat)), u7, u8, none, none, none] H10
    have e010 := e8.trans (e9.trans e10)
    have C10 := C8.mono (e9.trans e10)
    have A10 := A8.mono (e9.trans e10)
    obtain ⟨L, hL⟩ : ∃ L, L = ((gm g).ways pl).map (fun w => Zk.beh cs ((gm g).num pl) (Zk.mAt f w)) := ⟨_, rfl⟩
    have Ll : L.length = ((gm g).ways pl).length := by rw [hL, List.length_map]
    have Lok : ∀ m ∈ L, Zk.OkM cs m ∧ ∃ w ∈ (gm g).ways pl, m = Zk.beh cs ((gm g).num pl) (Zk.mAt f w) := by
      intro m hm
      rw [hL] at hm
      obtain ⟨w, h1, rfl⟩ := List.mem_map.mp hm
      exact ⟨(Zk.beh_code hc.dec _ (ok_at J.ok J.len (hway w h1))).1, w, h1, rfl⟩
    have lc : EvLP (tLc (iList K (tVar 6)) (gName 11) tYes (tCall (sp_law_rank K) [] E0 (tCons (tCall (sp_behind K) [] E0 (tCons (tVar 1) (tCons (tVar 2) (tCons (tOp (rIxL K) (tVar 3) (tVar 11)) tNil)))) tNil)) [11]) [some (.ref a), some (.ref C), some (.int ((gm g).num pl)), some (.ref F), some (.int pl), some (.int ((gm g).own pl)), some (.ref (rw' pl.toNat)), u7, u8, none, none, none] H10 L.length (fun i => RkV (L.getD i none)) := by
      have := ep_lcLP (K := K) (σ := [some (.ref a), some (.ref C), some (.int ((gm g).num pl)), some (.ref F), some (.int pl), some (.int ((gm g).own pl)), some (.ref (rw' pl.toNat)), u7, u8, none, none, none]) (H := H10) (tl := tVar 6) (te := tCall (sp_law_rank K) [] E0 (tCons (tCall (sp_behind K) [] E0 (tCons (tVar 1) (tCons (tVar 2) (tCons (tOp (rIxL K) (tVar 3) (tVar 11)) tNil)))) tNil)) (j := 11) (vs := [11]) (P := fun i => RkV (L.getD i none)) (fun _ => RkV.lasts) (fun _ => RkV.keep) (ev_var rfl) (ex_l e10 (G9.ways hip)) (by rw [List.length_map]; omega) (fun _ => rfl) fun i x H11 e11 hx => ?_
      · rw [List.length_map, ← Ll] at this
        exact this
      · obtain ⟨w, hw, rfl⟩ := iv_at hx
        have ew : L.getD i none = Zk.beh cs ((gm g).num pl) (Zk.mAt f w) := by
          rw [hL, List.getD, List.getElem?_map, hw]
          rfl
        rw [ew]
        have hwm := hway w (List.mem_of_getElem? hw)
        obtain ⟨w1, w2⟩ := ing_nat hwm
        obtain ⟨v, hv, ev⟩ := LsP.ix (K := K) (A10.mono e11) (i := w.toNat) (by rw [J.len]; omega)
        have inner : EvP (tCall (sp_behind K) [] E0 (tCons (tVar 1) (tCons (tVar 2) (tCons (tOp (rIxL K) (tVar 3) (tVar 11)) tNil)))) ((wipe [some (.ref a), some (.ref C), some (.int ((gm g).num pl)), some (.ref F), some (.int pl), some (.int ((gm g).own pl)), some (.ref (rw' pl.toNat)), u7, u8, none, none, none] [11]).set 11 (some (.int w))) H11 (MsV (Zk.beh cs ((gm g).num pl) (Zk.mAt f w))) := fun H12 e12 Q' q' => tcall_of (vs := [.ref C, .int ((gm g).num pl), v]) (ea_cons (ev_var rfl) (ea_cons (ev_var rfl) (ea_cons (ev e12 (ev_var rfl) (Ev.to (ev_var rfl) (by rw [w2]))) ea_nil))) fun H13 e13 =>
          ⟨C, _, v, cs, Zk.mAt f w, rfl, C10.mono (e11.trans (e12.trans e13)), hc.dec, cl, MsV.lasts _ _ _ (e12.trans e13) hv, ok_at J.ok J.len hwm, fun u H5 e5 hu => q' u H5 (e13.trans e5) hu⟩
        refine ep_call (Ps := [MsV (Zk.beh cs ((gm g).num pl) (Zk.mAt f w))]) (ep_cons MsV.lasts inner ep_nil) fun vs H12 e12 hh Q' q' => ?_
        obtain ⟨v', rfl, hv'⟩ : ∃ v', vs = [v'] ∧ MsV (Zk.beh cs ((gm g).num pl) (Zk.mAt f w)) v' H12 := by
          obtain ⟨x, hx, px⟩ := holdP_at hh (j := 0) rfl
          have := holdP_len hh
          match vs, this, hx with
          | [y], _, hx =>
            cases hx
            exact ⟨_, rfl, px⟩
        exact ⟨v', _, rfl, hv', fun x H13 e13 hr => q' x H13 e13 hr⟩
    refine q_sorted (σ := [some (.ref a), some (.ref C), some (.int ((gm g).num pl)), some (.ref F), some (.int pl), some (.int ((gm g).own pl)), some (.ref (rw' pl.toNat)), u7, u8, none, none, none]) lc (fun m hm => (Lok m hm).1) fun T H11 zs hT e11 hT11 zlen zin zall zpw => ?_
    have Lne : 0 < L.length := by
      rw [Ll]
      exact List.length_pos_iff.mpr hne
    -- the one by its player
    obtain ⟨b, hb, hbest⟩ : ∃ b ∈ zs, (((gm g).own pl = 0 → ∀ z ∈ zs, Zk.code cs b.2 ≤ Zk.code cs z.2) ∧ ((gm g).own pl ≠ 0 → ∀ z ∈ zs, Zk.code cs z.2 ≤ Zk.code cs b.2)) ∧ ∀ (u8 : Option V), Ev (tOp (rIxL K) (tLst (tCons (tOp (rIxL K) (tVar 7) (tC (.int 0))) (tCons (tOp (rIxL K) (tVar 7) (tUn rNeg (tC (.int 1)))) tNil))) (tVar 5)) [some (.ref a), some (.ref C), some (.int ((gm g).num pl)), some (.ref F), some (.int pl), some (.int ((gm g).own pl)), some (.ref (rw' pl.toNat)), some (.ref T), u8, none, none, none] H11 b.1 := by
      have zne : zs ≠ [] := by
        intro z
        rw [z] at zlen
        simp at zlen
        omega
      obtain ⟨x, hx⟩ : ∃ x, zs.head? = some x := by
        cases zs with
        | nil => exact absurd rfl zne
        | cons x r => exact ⟨x, rfl⟩
      obtain ⟨y, hy⟩ : ∃ y, zs.getLast? = some y := ⟨_, List.getLast?_eq_some_getLast zne⟩
      have hx0 : (zs.map (·.1))[0]? = some x.1 := by
        rw [List.getElem?_map, ← List.head?_eq_getElem?, hx]
        rfl
      have hy0 : (zs.map (·.1)).getLast? = some y.1 := by
        rw [List.getLast?_map, hy]
        rfl
      have el : ∀ u8 : Option V, EvL (tLst (tCons (tOp (rIxL K) (tVar 7) (tC (.int 0))) (tCons (tOp (rIxL K) (tVar 7) (tUn rNeg (tC (.int 1)))) tNil))) [some (.ref a), some (.ref C), some (.int ((gm g).num pl)), some (.ref F), some (.int pl), some (.int ((gm g).own pl)), some (.ref (rw' pl.toNat)), some (.ref T), u8, none, none, none] H11 [x.1, y.1] := fun u8 => el_lst (ea_cons (ev_op (ev_var rfl) ev_c (rv_ixL (sq_of hT11) (atI_nat (j := 0) hx0))) (ea_cons (ev_op (ev_var rfl) (ev_un ev_c ru_neg) (rv_ixL (sq_of hT11) (atI_m1 hy0))) ea_nil)) (by simp)
      have mx : ∀ z ∈ zs, Zk.code cs x.2 ≤ Zk.code cs z.2 := by
        intro z hz
        cases zs with
        | nil => cases hz
        | cons x' r =>
          cases hx
          rcases List.mem_cons.mp hz with rfl | hz
          · exact Nat.le_refl _
          · exact (List.pairwise_cons.mp zpw).1 z hz
      have my : ∀ z ∈ zs, Zk.code cs z.2 ≤ Zk.code cs y.2 := by
        intro z hz
        obtain ⟨ys, rfl⟩ := List.getLast?_eq_some_iff.mp hy
        rcases List.mem_append.mp hz with hz | hz
        · exact (List.pairwise_append.mp zpw).2.2 z hz y (by simp)
        · rw [List.mem_singleton.mp hz]
          exact Nat.le_refl _
      rcases hown with ho | ho
      · refine ⟨x, List.mem_of_mem_head? hx, ⟨fun _ => mx, fun h => absurd ho h⟩, fun u8 => ev_opL1 (el u8) (y := .int 0) (fun H' e => Ev.to (ev_var rfl) (by rw [ho])) fun p H' hp e => rv_ixL (sq_of hp) rfl⟩
      · refine ⟨y, List.mem_of_getLast? hy, ⟨fun h => absurd h (by omega), fun _ => my⟩, fun u8 => ev_opL1 (el u8) (y := .int 1) (fun H' e => Ev.to (ev_var rfl) (by rw [ho])) fun p H' hp e => rv_ixL (sq_of hp) rfl⟩
    obtain ⟨⟨hb0, hb1⟩, hev⟩ := hbest
    obtain ⟨hbL, hbR⟩ := zin b hb
    have lm : Zk.LftM (gm g) cs f pl b.2 := by
      obtain ⟨k1, w, k2, k3⟩ := Lok _ hbL
      have at' : ∀ w ∈ (gm g).ways pl, Zk.bet cs ((gm g).num pl) (Zk.cAt cs f w) = Zk.code cs (Zk.beh cs ((gm g).num pl) (Zk.mAt f w)) ∧ ∃ z ∈ zs, z.2 = Zk.beh cs ((gm g).num pl) (Zk.mAt f w) := fun w hw => ⟨(Zk.beh_code hc.dec _ (ok_at J.ok J.len (hway w hw))).2.symm, zall _ (by rw [hL]; exact List.mem_map.mpr ⟨w, hw, rfl⟩)⟩
      refine ⟨k1, ⟨w, k2, by rw [(at' w k2).1, ← k3]⟩, fun e w hw => ?_, fun e w hw => ?_⟩
      · obtain ⟨z1, z, z2, z3⟩ := at' w hw
        rw [z1, ← z3]
        exact hb0 e z z2
      · obtain ⟨z1, z, z2, z3⟩ := at' w hw
        rw [z1, ← z3]
        exact hb1 e z z2
    refine q_asg (σ := [some (.ref a), some (.ref C), some (.int ((gm g).num pl)), some (.ref F), some (.int pl), some (.int ((gm g).own pl)), some (.ref (rw' pl.toNat)), some (.ref T), u8, none, none, none]) (v := b.1) (hev u8) fun H12 e12 => ?_
    have e1012 := e11.trans e12
    have A12 := A10.mono e1012
    have C12 := C10.mono e1012
    have hb12 := RkV.lasts _ _ _ e12 hbR
    obtain ⟨w, hw, ew⟩ := LsP.ix (K := K) A12 (i := pl.toNat) (by rw [J.len]; omega)
    have hw' : MsV (Zk.mAt f pl) w H12 := hw
    have okw := ok_at J.ok J.len hip
    have rk : EvP (tCall (sp_law_rank K) [] E0 (tCons (tOp (rIxL K) (tVar 3) (tVar 4)) tNil)) [some (.ref a), some (.ref C), some (.int ((gm g).num pl)), some (.ref F), some (.int pl), some (.int ((gm g).own pl)), some (.ref (rw' pl.toNat)), some (.ref T), some b.1, none, none, none] H12 (RkV (Zk.mAt f pl)) := fun H13 e13 Q' q' => tcall_of (vs := [w]) (ea_cons (ew e13 (ev_var rfl) (Ev.to (ev_var rfl) (by rw [hp2]))) ea_nil) fun H14 e14 => ⟨w, _, rfl, MsV.lasts _ _ _ (e13.trans e14) hw', fun x H15 e15 hr => q' x H15 (e14.trans e15) hr⟩
    refine q_when (σ := [some (.ref a), some (.ref C), some (.int ((gm g).num pl)), some (.ref F), some (.int pl), some (.int ((gm g).own pl)), some (.ref (rw' pl.toNat)), some (.ref T), some b.1, none, none, none]) (b := decide (Zk.code cs (Zk.mAt f pl) < Zk.code cs b.2)) (et_test (ev_opP RkV.lasts (ep_val RkV.lasts (ev_var rfl) hb12) rk fun x y H' e hx hy => rv_gtRk lm.1 okw hx hy)) (fun z H13 e13 => ?_) (fun z H13 e13 => ?_)
    · have lt : Zk.cAt cs f pl < Zk.code cs b.2 := of_decide_eq_true z
      obtain ⟨vals, h1, h2, h3⟩ := FdA.setK (A12.mono e13)
      obtain ⟨v, hv, ev⟩ := ev_unrank (K := K) (σ := [some (.ref a), some (.ref C), some (.int ((gm g).num pl)), some (.ref F), some (.int pl), some (.int ((gm g).own pl)), some (.ref (rw' pl.toNat)), some (.ref T), some b.1, none, none, none]) (tb := tVar 8) (RkV.lasts _ _ _ e13 hb12) fun H' e => ev_var rfl
      refine q_setL (σ := [some (.ref a), some (.ref C), some (.int ((gm g).num pl)), some (.ref F), some (.int pl), some (.int ((gm g).own pl)), some (.ref (rw' pl.toNat)), some (.ref T), some b.1, none, none, none]) (j := pl.toNat) (v := v) h1 ev (ev_var rfl) (Ev.to (ev_var rfl) (by rw [hp2])) (by rw [h2, J.len]; omega) fun H14 e14 => ?_
      have A14 := h3 H14 b.2 v pl.toNat e14 (MsV.lasts _ _ _ e14 hv) (by rw [J.len]; omega)
      have C14 : CsA (upd H14 F (.lst (vals.set pl.toNat v))) C cs := LsP.keep (fun _ => PrV.keep) (C12.mono (e13.trans e14)) (e14 _ _ h1) cF
      have J14 := J.set ok hip lm
      have less := J.less hip lm lt
      have e014 : Evl.Ex H (upd H14 F (.lst (vals.set pl.toNat v))) := Evl.Ex.mut (e010.trans (e1012.trans (e13.trans e14))) hF0
      refine s_asg (σ := [some (.ref a), some (.ref C), some (.int ((gm g).num pl)), some (.ref F), some (.int pl), some (.int ((gm g).own pl)), some (.ref (rw' pl.toNat)), some (.ref T), some b.1, none, none, none]) (v := .int (g.length : Nat)) (lenA _ _ e014 rfl) fun H15 e15 => ?_
      refine s_asg (σ := [some (.ref a), some (.ref C), some (.int ((gm g).num pl)), some (.ref F), some (.int (g.length : Nat)), some (.int ((gm g).own pl)), some (.ref (rw' pl.toNat)), some (.ref T), some b.1, none, none, none]) (v := .int ((g.length : Nat) - 1)) (ev_op (ev_var rfl) ev_c rv_I0) fun H16 e16 => ⟨f.set pl.toNat b.2, g.length, _, _, _, _, _, _, rfl, rfl, Nat.le_refl _, e014.trans (e15.trans e16), C14.mono (e15.trans e16), A14.mono (e15.trans e16), J14, ?_, fun p hp hk => absurd hp.2 (by omega)⟩
      have : (tot cs (f.set pl.toNat b.2) + 1) * (g.length + 1) ≤ tot cs f * (g.length + 1) := Nat.mul_le_mul_right _ less
      rw [Nat.add_mul] at this
      omega
    · have nlt : ¬ Zk.cAt cs f pl < Zk.code cs b.2 := of_decide_eq_false z
      refine s_asg (σ := [some (.ref a), some (.ref C), some (.int ((gm g).num pl)), some (.ref F), some (.int pl), some (.int ((gm g).own pl)), some (.ref (rw' pl.toNat)), some (.ref T), some b.1, none, none, none]) (v := .int (pl - 1)) (ev_op (ev_var rfl) ev_c rv_I0) fun H14 e14 => ⟨f, k - 1, _, _, _, _, _, _, rfl, by omega, by omega, e010.trans (e1012.trans (e13.trans e14)), C12.mono (e13.trans e14), A12.mono (e13.trans e14), J, by omega, fun p hp hk' m' lm' => ?_⟩
      by_cases c : (k : Int) ≤ p
      · exact st p hp c m' lm'
      · have : p = pl := by omega
        subst this
        have := lm.2.le lm'.2 fun w hw => ⟨Nat.le_refl _, J.le (hway w hw)⟩
        have := lm'.2.le lm.2 fun w hw => ⟨Nat.le_refl _, J.le (hway w hw)⟩
        omega
  · have z' := of_decide_eq_false z
    exact s_ret (ev_var rfl) fun H10 e10 => q cs f F H10 hc ⟨J, fun p hp _ => st p hp (by have := hp.1; omega)⟩ hF0 (e8.trans (e9.trans e10)) (A8.mono (e9.trans e10))
end
end Gp
namespace Gp
open PySem L2 Evl
local macro_rules | `(tactic| one_sign) => `(tactic| first | exact Evl.Ex.refl _ | assumption | exact Evl.Ex.new (by assumption) | (refine Evl.Ex.trans ?_ (by assumption); one_sign) | (refine Evl.Ex.trans ?_ (Evl.Ex.new (by assumption)); one_sign))
local macro_rules | `(tactic| one_place) => `(tactic| first | assumption | exact upd_same | (refine Evl.ex_l ?_ (by assumption); one_sign) | (refine Evl.ex_t ?_ (by assumption); one_sign) | (refine Evl.sq_of ?_; one_place) | (refine Evl.st_of ?_; one_place) | (refine (show Evl.Ex _ _ from ?_) _ _ (by assumption); one_sign))
local macro_rules | `(tactic| one_item) => `(tactic| first | ((with_reducible apply ev_var); rfl) | (with_reducible exact ev_c) | assumption | (refine Ev.mono ?_ (by assumption); one_sign) | ((with_reducible apply ev_op) <;> one_item) | (with_reducible exact rv_I0) | ((with_reducible refine rv_mod ?_); omega) | ((with_reducible refine rv_div ?_ ?_) <;> omega) | ((with_reducible refine rv_mulL ?_); omega) | ((with_reducible refine rv_mulR ?_); omega) | ((with_reducible refine rv_pow ?_); decide) | ((with_reducible refine rv_eq ?_); rfl) | ((with_reducible refine rv_ne ?_); rfl) | (with_reducible exact rv_isN) | (with_reducible exact rv_notN) | ((with_reducible apply rv_inI); one_place) | ((with_reducible apply rv_niI); one_place) | ((with_reducible apply rv_ixT) <;> (first | rfl | one_place)) | ((with_reducible apply ev_len) <;> (first | one_item | one_place)) | ((with_reducible apply ev_lenT) <;> (first | one_item | one_place)) | (with_reducible exact ea_nil) | ((with_reducible apply ea_cons) <;> one_item) | ((with_reducible apply et_test); one_item) | ((with_reducible apply et_B); one_item) | (with_reducible exact et_yes) | ((with_reducible apply et_not); one_item) | ((with_reducible apply ev_chain) <;> one_item) | ((with_reducible apply ev_notV); one_item))
section
variable {K : PySem.W.Frag} {σ : L2.St} {H : Hp}
/-! what the law sees of a refusal -/
def mw (n : Nat) : Str := if 10 < n then "many" else "none"
def sp_law_refused (K : PySem.W.Frag) : Sp := fun vs H Q _ => ∃ a g rt rw, vs = [.ref a] ∧ GA K H a g rt rw ∧ OkG g ∧ RetV (.str (mw g.length)) H Q
theorem pure_law_refused (C : Five) (CG : Addr) (km : KitT K C C.many 4) (mm : PySem.W.exmOne K (.ref C.many) (.ref CG) = some true) (vs : List V) (H : Hp) (Q : VK) (E : XK) (h : sp_law_refused K vs H Q E) :
    t_law_refused K (sp_measures K C.many) (sp_law_word K C) CG { nx := fun _ H' => Q .non H', rt := Q } (start N_law_refused vs) H := by
  obtain ⟨a, g, rt, rw', rfl, G, ok, q⟩ := h
  refine q_asg (σ := [some (.ref a), none, none]) (v := .non) ev_c fun H1 e1 => ?_
  let tail : TS := (tRet (tCall (sp_law_word K C) [] E0 (tCons (tVar 1) tNil)))
  let D0 : Ends := { nx := fun _ H' => Q .non H', rt := Q }
  let D1 : Ends := { D0 with nx := tail D0 }
  let W : WX := wKeep K (.ref CG) 2 (fun _ _ _ => (tAsg (tVar 2) (gName 1))) (fun _ _ _ _ => False) D1
  show (tDrop (tCallS (sp_measures K C.many) (WE W) (tCons (tVar 0) tNil))) D1 [some (.ref a), some .non, none] H1
  refine s_dropX (vs := [.ref a]) (by one_item) fun H2 e2 => ⟨a, g, rt, rw', rfl, G.mono (e1.trans e2), ok, fun h10 H3 e3 => ?_, fun h10 cs f F H3 _ _ hF e3 _ => ?_⟩
  · have hw : mw g.length = wordOf 4 := by unfold mw; rw [if_pos h10]; rfl
    rw [hw] at q
    refine ⟨true, mm, fun _ p hp => ?_, fun z => by cases z⟩
    refine s_asg (σ := [some (.ref a), some .non, some (.ref p)]) (ev_var rfl) fun H4 e4 => ?_
    have e5 : Evl.Ex H (upd H4 p (ExK (.ref C.many) none p)) := Evl.Ex.mut (((e1.trans e2).trans e3).trans e4) (fresh_back ((e1.trans e2).trans e3) hp)
    have hp5 : (upd H4 p (ExK (.ref C.many) none p)) p = some (ExK (.ref C.many) none p) := upd_same
    show tail D0 [some (.ref a), some (.ref p), none] (upd H4 p (ExK (.ref C.many) none p))
    generalize (upd H4 p (ExK (.ref C.many) none p)) = H5 at e5 hp5 ⊢
    exact s_ret (ev_call0 (vs := [.ref p]) (by one_item) fun H6 e6 Q q E => ⟨.ref p, rfl, .inr ⟨p, C.many, none, 4, rfl, e6 _ _ hp5, .inl rfl, by decide, km, q⟩⟩) fun H7 e7 => q H7 (e5.trans e7)
  · have hw : mw g.length = "none" := by unfold mw; rw [if_neg (by omega)]
    rw [hw] at q
    show tail D0 [some (.ref a), some .non, none] H3
    exact s_ret (ev_call0 (vs := [.non]) (by one_item) fun H6 e6 Q q E => ⟨.non, rfl, .inl ⟨rfl, q⟩⟩) fun H7 e7 => q H7 (((e1.trans e2).trans e3).trans e7)
theorem SpV.refused {a : Addr} {g : List Row} {rt rw : Nat → Addr} (G : GA K H a g rt rw) (ok : OkG g) : SpV (sp_law_refused K) [.ref a] H (.str (mw g.length)) := fun H1 e Q q E => ⟨a, g, rt, rw, rfl, G.mono e, ok, q⟩
/-! new rows over a range -/
theorem lc_rowsR {ta : TA} {lo hi : Int} {j : Nat} {e1 e2 e3 : TE} (f : Nat → Row) (h : EvA ta σ H [.int lo, .int hi]) (hb : 0 ≤ lo ∧ lo ≤ hi ∧ hi ≤ 100)
    (hw : ∀ x, wipe ((wipe σ [j]).set j (some x)) [j] = wipe σ [j])
    (he1 : ∀ (i : Nat) H1, Evl.Ex H H1 → (i : Int) < hi - lo → Ev e1 ((wipe σ [j]).set j (some (.int (lo + i)))) H1 (.int (f i).1))
    (he2 : ∀ (i : Nat) H1, Evl.Ex H H1 → (i : Int) < hi - lo → Ev e2 ((wipe σ [j]).set j (some (.int (lo + i)))) H1 (.int (f i).2.1))
    (he3 : ∀ (i : Nat) H1, Evl.Ex H H1 → (i : Int) < hi - lo → EvW K e3 ((wipe σ [j]).set j (some (.int (lo + i)))) H1 (f i).2.2)
    {H0 : Hp} (e0 : Evl.Ex H H0) {Q : VK} (q : ∀ p rt' rw' H2, H0 p = none → Evl.Ex H0 H2 → GA K H2 p ((List.range (hi - lo).toNat).map f) rt' rw' → Q (.ref p) H2) :
    tLc (iRng2 ta) (gName j) tYes (tTup (tCons e1 (tCons e2 (tCons e3 tNil)))) [j] σ H0 Q := h H0 e0 _ fun H1 e01 => ⟨lo, hi, rfl, ⟨by omega, by omega, by omega, by omega⟩, fun D hD => by
  have eH1 := e0.trans e01
  exact lc_range (lo := lo) (n := (hi - lo).toNat) (NewR K f H1 D) ⟨hD, Evl.Ex.new hD, fun _ => 0, fun _ => 0, upd_same, fun j hj => absurd hj (Nat.not_lt_zero _)⟩ (fun i H' hi' p => by
    obtain ⟨p1, p2, rt', rw', p3, p4⟩ := p
    have hi2 : (i : Int) < hi - lo := by omega
    refine ⟨hw _, ?_⟩
    show (tTup (tCons e1 (tCons e2 (tCons e3 tNil)))) ((wipe σ [j]).set j (some (.int (lo + i)))) H' fun y H4 => ∃ acc, H4 D = some (.lst acc) ∧ acc.length < sizeLine ∧ NewR K f H1 D (i + 1) (upd H4 D (.lst (acc ++ [y])))
    refine he1 i H1 eH1 hi2 H' p2 _ fun H3 e3 => he2 i H1 eH1 hi2 H3 (p2.trans e3) _ fun H4 e4 => he3 i H1 eH1 hi2 H4 ((p2.trans e3).trans e4) _ fun w H5 e5 hw5 => ⟨by show 3 ≤ sizeLine; decide, fun t ht => ?_⟩
    have e35 := (e3.trans e4).trans e5
    have hD5 := e35 _ _ p3
    have tD : t ≠ D := (fresh_at ht hD5).symm
    refine ⟨_, Evl.Ex.new ht _ _ hD5, sz_lt (by simp; omega), p1, Evl.Ex.mut ((p2.trans e35).trans (Evl.Ex.new ht)) p1, putA rt' i t, putA rw' i w, by rw [upd_same, putA_map], fun j hj => ?_⟩
    by_cases c : j < i
    · rw [putA_lt c, putA_lt c]
      obtain ⟨q1, q2, q3⟩ := p4 j c
      refine ⟨by rw [upd_ne q2]; exact Evl.Ex.new ht _ _ (e35 _ _ q1), q2, ?_⟩
      rcases q3 with q3 | q3
      · exact .inl q3
      · exact .inr ⟨by rw [upd_ne q3.2]; exact Evl.Ex.new ht _ _ (e35 _ _ q3.1), q3.2⟩
    · have cj : j = i := by omega
      subst cj
      rw [putA_eq, putA_eq]
      refine ⟨by rw [upd_ne tD]; exact upd_same, tD, ?_⟩
      rcases hw5 with hw5 | hw5
      · exact .inl hw5
      · have wD : w ≠ D := (fresh_at hw5.2 (e4 _ _ (e3 _ _ p3))).symm
        exact .inr ⟨by rw [upd_ne wD]; exact Evl.Ex.new ht _ _ hw5.1, wD⟩) (fun H' p => by
    obtain ⟨p1, p2, rt', rw', p3, p4⟩ := p
    have lf : ((List.range (hi - lo).toNat).map f).length = (hi - lo).toNat := by simp
    have rf : ∀ i, i < (hi - lo).toNat → rowN ((List.range (hi - lo).toNat).map f) i = f i := fun i hi => by simp [rowN, hi]
    refine q D rt' rw' H' (fresh_back e01 p1) (e01.trans p2) ⟨by rw [lf]; exact sq_of p3, fun i hi => ?_, fun i hi => ?_⟩
    · rw [lf] at hi
      rw [rf i hi]
      exact st_of (p4 i hi).1
    · rw [lf] at hi
      rw [rf i hi]
      rcases (p4 i hi).2.2 with z | z
      · exact ex_l p2 z
      · exact sq_of z.1)⟩
end
/-! a game and more places -/
def gx (g : List Row) (m : Nat) : List Row := g ++ (List.range (m - g.length)).map fun (k : Nat) => ((((g.length : Nat) : Int) + k) % 2, ((g.length : Nat) : Int) + k, [((g.length : Nat) : Int) + k])
theorem gx_len {g : List Row} {m : Nat} (h : g.length ≤ m) : (gx g m).length = m := by
  unfold gx
  rw [List.length_append, List.length_map, List.length_range]
  omega
theorem rowN_gx {g : List Row} {m i : Nat} (hi : i < m) : rowN (gx g m) i = if i < g.length then rowN g i else ((i : Int) % 2, (i : Int), [(i : Int)]) := by
  unfold gx rowN
  by_cases c : i < g.length
  · rw [if_pos c, List.getD, List.getD, List.getElem?_append_left c]
  · rw [if_neg c, List.getD, List.getElem?_append_right (by omega), List.getElem?_map, List.getElem?_range (by omega)]
    have e : ((g.length : Nat) : Int) + ((i - g.length : Nat) : Int) = (i : Int) := by omega
    show (((((g.length : Nat) : Int) + ((i - g.length : Nat) : Int)) % 2, ((g.length : Nat) : Int) + ((i - g.length : Nat) : Int), [((g.length : Nat) : Int) + ((i - g.length : Nat) : Int)]) : Row) = _
    rw [e]
theorem gx_ok {g : List Row} {m : Nat} (ok : OkG g) (h : g.length ≤ m) (h40 : m ≤ 40) : OkG (gx g m) := by
  have l := gx_len h
  have cs : ∀ i, i < (gx g m).length → rowN (gx g m) i = if i < g.length then rowN g i else ((i : Int) % 2, (i : Int), [(i : Int)]) := fun i hi => rowN_gx (by omega)
  refine ⟨by omega, fun i hi => ?_, fun i hi => ?_, fun i hi => ?_, fun i hi => ?_, fun i hi w hw => ?_, fun i hi => ?_⟩
  · rw [cs i hi]; split
    · next c => exact ok.own i c
    · show (i : Int) % 2 = 0 ∨ (i : Int) % 2 = 1
      omega
  · rw [cs i hi]; split
    · next c => exact ok.num i c
    · show (0 : Int) ≤ (i : Int)
      omega
  · rw [cs i hi]; split
    · next c => exact ok.ne i c
    · simp
  · rw [cs i hi]; split
    · next c => exact ok.nd i c
    · simp
  · rw [cs i hi] at hw
    by_cases c : i < g.length
    · rw [if_pos c] at hw
      have := ok.way i c w hw
      exact ⟨this.1, by have := this.2; omega⟩
    · rw [if_neg c] at hw
      have : w = (i : Int) := by simpa using hw
      exact ⟨by omega, by omega⟩
  · rw [cs i hi]; split
    · next c => exact ok.few i c
    · simp
theorem gx_take {g : List Row} {m k : Nat} (h : g.length ≤ k) (hk : k ≤ m) : (gx g m).take k = gx g k := by
  unfold gx
  rw [List.take_append, List.take_of_length_le h, ← List.map_take, List.take_range]
  congr 3
  omega
section
variable {K : PySem.W.Frag} {H : Hp}
theorem GA.cat {a b p : Addr} {g h : List Row} {rt rw rt2 rw2 : Nat → Addr} (G : GA K H a g rt rw) (G2 : GA K H b h rt2 rw2) (hp : SqL K H p (((List.range g.length).map fun i => V.ref (rt i)) ++ ((List.range h.length).map fun i => V.ref (rt2 i)))) :
    GA K H p (g ++ h) (fun i => if i < g.length then rt i else rt2 (i - g.length)) (fun i => if i < g.length then rw i else rw2 (i - g.length)) := by
  have r1 : ∀ i, i < g.length → rowN (g ++ h) i = rowN g i := fun i c => by unfold rowN; rw [List.getD, List.getD, List.getElem?_append_left c]
  have r2 : ∀ i, ¬ i < g.length → rowN (g ++ h) i = rowN h (i - g.length) := fun i c => by unfold rowN; rw [List.getD, List.getD, List.getElem?_append_right (by omega)]
  refine ⟨?_, fun i hi => ?_, fun i hi => ?_⟩
  · have : ((List.range (g ++ h).length).map fun i => V.ref (if i < g.length then rt i else rt2 (i - g.length))) = ((List.range g.length).map fun i => V.ref (rt i)) ++ ((List.range h.length).map fun i => V.ref (rt2 i)) := by
      rw [List.length_append, List.range_add, List.map_append, List.map_map]
      congr 1
      · refine List.map_congr_left fun i hi => ?_
        rw [if_pos (List.mem_range.mp hi)]
      · refine List.map_congr_left fun i hi => ?_
        show V.ref (if g.length + i < g.length then rt (g.length + i) else rt2 (g.length + i - g.length)) = V.ref (rt2 i)
        rw [if_neg (by omega), Nat.add_sub_cancel_left]
    rw [this]
    exact hp
  · rw [List.length_append] at hi
    by_cases c : i < g.length
    · rw [if_pos c, if_pos c, r1 i c]
      exact G.row i c
    · rw [if_neg c, if_neg c, r2 i c]
      exact G2.row _ (by omega)
  · rw [List.length_append] at hi
    by_cases c : i < g.length
    · rw [if_pos c, r1 i c]
      exact G.way i c
    · rw [if_neg c, r2 i c]
      exact G2.way _ (by omega)
theorem GA.take {a p : Addr} {g : List Row} {rt rw : Nat → Addr} {m : Nat} (G : GA K H a g rt rw) (hm : m ≤ g.length) (hp : SqL K H p (((List.range g.length).map fun i => V.ref (rt i)).take m)) : GA K H p (g.take m) rt rw := by
  have l : (g.take m).length = m := by rw [List.length_take]; omega
  have r : ∀ i, i < m → rowN (g.take m) i = rowN g i := fun i c => by unfold rowN; rw [List.getD, List.getD, List.getElem?_take_of_lt c]
  refine ⟨?_, fun i hi => ?_, fun i hi => ?_⟩
  · rw [l]
    rw [← List.map_take, List.take_range, Nat.min_eq_left hm] at hp
    exact hp
  · rw [l] at hi
    rw [r i hi]
    exact G.row i (by omega)
  · rw [l] at hi
    rw [r i hi]
    exact G.way i (by omega)
/-! told measures as data -/
theorem FdA.dp {p : Addr} {f : List Zk.Ms} (h : FdA H p f) : Dp K H (.ref p) (.list (f.map dMs)) := by
  obtain ⟨xs, h1, h2, h3⟩ := h
  refine .lst (sq_of h1) ?_
  have key : ∀ (xs : List V) (f : List Zk.Ms), xs.length = f.length → (∀ (i : Nat) v, xs[i]? = some v → MsV (f.getD i none) v H) → DpAll K H xs (f.map dMs) := by
    intro xs
    induction xs with
    | nil =>
      intro f hl _
      cases f with
      | nil => exact .nil
      | cons m r => simp at hl
    | cons x r ih =>
      intro f hl h
      cases f with
      | nil => simp at hl
      | cons m s => exact .cons (MsV.dp (h 0 x rfl)) (ih s (by simpa using hl) fun i v hv => h (i + 1) v hv)
  exact key xs f h2 h3
theorem shd_ms {n : Nat} (m : Zk.Ms) : ShD (n + 1) (dMs m) := by
  cases m with
  | none => exact shd_non
  | some x =>
    refine shd_tup fun d hd => ?_
    obtain ⟨k, _, rfl⟩ := List.mem_map.mp hd
    exact shd_int k
theorem shd_fd (f : List Zk.Ms) : ShD 2 (.list (f.map dMs)) := shd_list fun d hd => by
  obtain ⟨m, _, rfl⟩ := List.mem_map.mp hd
  exact shd_ms m
end
end Gp
namespace Gp
open PySem L2 Evl
local macro_rules | `(tactic| one_sign) => `(tactic| first | exact Evl.Ex.refl _ | assumption | exact Evl.Ex.new (by assumption) | (refine Evl.Ex.trans ?_ (by assumption); one_sign) | (refine Evl.Ex.trans ?_ (Evl.Ex.new (by assumption)); one_sign))
local macro_rules | `(tactic| one_place) => `(tactic| first | assumption | exact upd_same | (refine Evl.ex_l ?_ (by assumption); one_sign) | (refine Evl.ex_t ?_ (by assumption); one_sign) | (refine Evl.sq_of ?_; one_place) | (refine Evl.st_of ?_; one_place) | (refine (show Evl.Ex _ _ from ?_) _ _ (by assumption); one_sign))
local macro_rules | `(tactic| one_item) => `(tactic| first | ((with_reducible apply ev_var); rfl) | (with_reducible exact ev_c) | assumption | (refine Ev.mono ?_ (by assumption); one_sign) | ((with_reducible apply ev_op) <;> one_item) | (with_reducible exact rv_I0) | ((with_reducible refine rv_mod ?_); omega) | ((with_reducible refine rv_div ?_ ?_) <;> omega) | ((with_reducible refine rv_mulL ?_); omega) | ((with_reducible refine rv_mulR ?_); omega) | ((with_reducible refine rv_pow ?_); decide) | ((with_reducible refine rv_eq ?_); rfl) | ((with_reducible refine rv_ne ?_); rfl) | (with_reducible exact rv_isN) | (with_reducible exact rv_notN) | ((with_reducible apply rv_inI); one_place) | ((with_reducible apply rv_niI); one_place) | ((with_reducible apply rv_ixT) <;> (first | rfl | one_place)) | ((with_reducible apply ev_len) <;> (first | one_item | one_place)) | ((with_reducible apply ev_lenT) <;> (first | one_item | one_place)) | (with_reducible exact ea_nil) | ((with_reducible apply ea_cons) <;> one_item) | ((with_reducible apply et_test); one_item) | ((with_reducible apply et_B); one_item) | (with_reducible exact et_yes) | ((with_reducible apply et_not); one_item) | ((with_reducible apply ev_chain) <;> one_item) | ((with_reducible apply ev_notV); one_item))
theorem won_at {g : List Row} {cs : Zk.CS} {f : List Zk.Ms} (F : Fin5 g cs f) (c : CsOf g cs) (ok : OkG g) {i : Nat} (hi : i < g.length) : (if (f.getD i none).isNone = true then (1 : Int) else 0) = (Zk.aget (solF g).1 (i : Int)).getD 0 := by
  have hp : Ing g (i : Int) := ⟨by omega, by omega⟩
  have S := sol_ok ok
  have hW : ∀ p, Ing g p ↔ p ∈ allP g := fun p => mem_allP.symm
  have f0 := Zk.Flw.congr (S.good 0 (.inl rfl)) hW (fun p => Iff.rfl)
  have f1 := Zk.Flw.congr (S.good 1 (.inr rfl)) hW (fun p => Iff.rfl)
  have w := F.won c ok f0 f1 hp
  have em : Zk.mAt f (i : Int) = f.getD i none := by
    unfold Zk.mAt
    rw [Int.toNat_natCast]
  rw [em] at w
  have hs : Zk.aget (solF g).1 (i : Int) ≠ none := (S.dom _).mpr (mem_allP.mpr hp)
  cases hv : Zk.aget (solF g).1 (i : Int) with
  | none => exact absurd hv hs
  | some v =>
    rcases S.two _ v hv with rfl | rfl
    · have := w.1 hv
      cases hf : f.getD i none with
      | none => exact absurd hf this
      | some x => rfl
    · rw [w.2 hv]
      rfl
theorem cutV_to (xs : List V) (n : Nat) : cutV xs none (some (n : Int)) = xs.take n := by
  unfold cutV
  rw [HT.sIx_none, HT.sIx_nat, List.drop_zero, Nat.sub_zero, ← List.take_eq_take_min]
section
variable {K : PySem.W.Frag} {σ : L2.St} {H : Hp}
def spLaw (K : PySem.W.Frag) : Sp := fun vs H Q _ => ∃ (a : Addr) (ns : List Int), vs = [.ref a] ∧ SqL K H a (iv ns) ∧ ns.length ≤ 63 ∧ ∀ H', Q (.bl true) H'
theorem ep_measures {C a : Addr} {g : List Row} {rt rw : Nat → Addr} {cs : Zk.CS} {f : List Zk.Ms} {ta : TE} (h : Ev ta σ H (.ref a)) (G : GA K H a g rt rw) (ok : OkG g) (l10 : g.length ≤ 10) (c : CsOf g cs) (F : Fin5 g cs f) : EvP (tCall (sp_measures K C) [] E0 (tCons ta tNil)) σ H (DpV K (.list (f.map dMs))) := fun H1 e Q q =>
  tcall_of (vs := [.ref a]) ((ea_cons h ea_nil).mono e) fun H2 e2 => ⟨a, g, rt, rw, rfl, G.mono (e.trans e2), ok, fun h => absurd h (by omega), fun _ cs' f' p H3 c' F' hp e3 A => by
    have : cs' = cs := c'.uniq c
    subst this
    have : f' = f := F'.uniq F c.dec ok
    subst this
    exact q _ H3 (e2.trans e3) (FdA.dp A)⟩
theorem ep_measures0 {C : Addr} : EvP (tCall (sp_measures K C) [] E0 (tCons (tLst tNil) tNil)) σ H (DpV K (.list [])) :=
  ep_call (Ps := [fun v H => ∃ p, v = .ref p ∧ H p = some (.lst [])]) (ep_cons (fun x H H' e ⟨p, h1, h2⟩ => ⟨p, h1, e _ _ h2⟩) (ep_lst (el_lst ea_nil (by decide)) fun p H' e h => ⟨p, rfl, h⟩) ep_nil) fun vs H1 e hh Q q => by
    obtain ⟨x, hx, p, rfl, hp⟩ := holdP_at hh (j := 0) rfl
    have hl := holdP_len hh
    match vs, hl, hx with
    | [y], _, hx =>
      cases hx
      refine ⟨p, [], fun _ => 0, fun _ => 0, rfl, ⟨sq_of hp, fun i hi => absurd hi (Nat.not_lt_zero _), fun i hi => absurd hi (Nat.not_lt_zero _)⟩, ⟨by decide, fun i hi => absurd hi (Nat.not_lt_zero _), fun i hi => absurd hi (Nat.not_lt_zero _), fun i hi => absurd hi (Nat.not_lt_zero _), fun i hi => absurd hi (Nat.not_lt_zero _), fun i hi => absurd hi (Nat.not_lt_zero _), fun i hi => absurd hi (Nat.not_lt_zero _)⟩, fun h => absurd h (by decide), fun _ cs f r H3 c F hr e3 A => ?_⟩
      have : f = [] := List.length_eq_zero_iff.mp F.J.len
      subst this
      exact q _ H3 e3 (FdA.dp A)
theorem mostOk : ∀ k : Fin 8, 1 ≤ ([6, 6, 6, 6, 6, 6, 6, 10] : List Int).getD k.val 0 ∧ ([6, 6, 6, 6, 6, 6, 6, 10] : List Int).getD k.val 0 ≤ 10 := by decide
theorem pure_law (C : Addr) (vs : List V) (H : Hp) (Q : VK) (E : XK) (h : spLaw K vs H Q E) : t_law K (sp_law_game K) (sp_law_copied K) (sp_law_measures K) (sp_measures K C) (sp_won K) (sp_law_refused K) { nx := fun _ H' => Q .non H', rt := Q } (start N_law vs) H := by
  obtain ⟨a, ns, rfl, hs, hlen, q⟩ := h
  obtain ⟨r, hr⟩ : ∃ r, r = (ns.length : Int) % 8 := ⟨_, rfl⟩
  have r0 : 0 ≤ r ∧ r < 8 := by omega
  have mo := mostOk ⟨r.toNat, by omega⟩
  simp only at mo
  have el : EvL (tLst (tCons (tC (.int 6)) (tCons (tC (.int 6)) (tCons (tC (.int 6)) (tCons (tC (.int 6)) (tCons (tC (.int 6)) (tCons (tC (.int 6)) (tCons (tC (.int 6)) (tCons (tC (.int 10)) tNil))))))))) [some (.ref a), none, none, none, none, none, none, none] H (iv [6, 6, 6, 6, 6, 6, 6, 10]) := el_lst (vs := [.int 6, .int 6, .int 6, .int 6, .int 6, .int 6, .int 6, .int 10]) (by one_item) (by simp)
  have evm : Ev (tOp (rIxL K) (tLst (tCons (tC (.int 6)) (tCons (tC (.int 6)) (tCons (tC (.int 6)) (tCons (tC (.int 6)) (tCons (tC (.int 6)) (tCons (tC (.int 6)) (tCons (tC (.int 6)) (tCons (tC (.int 10)) tNil))))))))) (tOp rMod (tCB (rLenS K) (tCons (tVar 0) tNil)) (tC (.int 8)))) [some (.ref a), none, none, none, none, none, none, none] H (.int (([6, 6, 6, 6, 6, 6, 6, 10] : List Int).getD r.toNat 0)) :=
    ev_opL1 el (y := .int r) (fun H' e => Ev.to (ev_op (ev_len (ev_var rfl) (ex_l e hs)) ev_c (rv_mod (by decide))) (by rw [hr, List.length_map])) fun p H' hp e => rv_ixI (sq_of hp) r0.1 (by simp; omega)
  generalize ([6, 6, 6, 6, 6, 6, 6, 10] : List Int).getD r.toNat 0 = most at mo evm
  refine q_call (σ := [some (.ref a), none, none, none, none, none, none, none]) (vs := [.ref a, .int most]) (ea_cons (ev_var rfl) (ea_cons evm ea_nil)) fun H1 e1 => ⟨a, ns, most, rfl, ex_l e1 hs, hlen, mo.1, by omega, fun A H2 g rt rw' hA e2 G2 ok g1 gm => ?_⟩
  have l10 : g.length ≤ 10 := by omega
  refine q_call (σ := [some (.ref a), some (.ref A), none, none, none, none, none, none]) (vs := [.ref A]) (by one_item) fun H3 e3 => ⟨A, g, rt, rw', rfl, G2.mono e3, ok, fun B rtB rwB H4 hB e4 GB => ?_⟩
  have G4 := G2.mono (e3.trans e4)
  refine q_call (σ := [some (.ref a), some (.ref A), some (.ref B), none, none, none, none, none]) (vs := [.ref A]) (by one_item) fun H5 e5 => ⟨A, g, rt, rw', rfl, G4.mono e5, ok, fun cs f D H6 c F hD e6 AD => ?_⟩
  have G6 := G4.mono (e5.trans e6)
  have GB6 := GB.mono (e5.trans e6)
  refine q_call (σ := [some (.ref a), some (.ref A), some (.ref B), some (.ref D), none, none, none, none]) (vs := [.ref B]) (by one_item) fun H7 e7 => ⟨B, g, rtB, rwB, rfl, GB6.mono e7, ok, fun h => absurd h (by omega), fun _ cs' f' R H8 c' F' hR e8 AR => ?_⟩
  have : cs' = cs := c'.uniq c
  subst this
  have : f' = f := F'.uniq F c.dec ok
  subst this
  have e78 := e7.trans e8
  have G7 := G6.mono e7
  have G8 := G6.mono e78
  have GB8 := GB6.mono e78
  have AD7 := AD.mono e7
  have AD8 := AD.mono e78
  have self : PyData.eqv (.list (f'.map dMs)) (.list (f'.map dMs)) = true := (shd_fd f').2.2
  have selfG : PyData.eqv (dGame g) (dGame g) = true := (shd_game (n := 0) g).2.2
  have shF : SeqAt.shaped (.list (f'.map dMs)) = true := ShD.shaped (shd_fd f')
  have shG : SeqAt.shaped (dGame g) = true := ShD.shaped (shd_game (n := 0) g)
  have AR' : FdA H8 R f' := AR
  obtain ⟨vals, v1, v2, v3⟩ := AR
  have vl : vals.length = g.length := by rw [v2]; exact F.J.len
  refine q_when (σ := [some (.ref a), some (.ref A), some (.ref B), some (.ref D), some (.ref R), none, none, none]) (b := false) (EvT.to (et_or (et_not (et_B (ev_isi (b := true) (ev_var rfl) (tyx_list (sq_of v1)) rfl))) fun _ => et_or (et_test (ev_op (ev_var rfl) (ev_var rfl) (rv_neD (FdA.dp AR') (FdA.dp AD8) shF shF))) fun _ => et_test (ev_op (ev_var rfl) (ev_var rfl) (rv_neD GB8.dp G8.dp shG shG))) (by rw [self, selfG]; rfl)) (fun z => by cases z) fun _ H9 e9 => ?_
  have v1' := e9 _ _ v1
  -- tuples, or None
  have l1 : EvL (tLc (iList K (tVar 4)) (gName 6) (tAnd (tTest (tOp rNotN (tVar 6) (tC .non))) (tNot (tB (tCB (rIsi K) (tCons (tVar 6) (tCons (tC (.ty "tuple")) tNil)))))) (tVar 6) [6]) [some (.ref a), some (.ref A), some (.ref B), some (.ref D), some (.ref R), none, none, none] H9 (iv []) := by
    refine EvL.to (el_lcL (fun _ => false) (fun _ => .non) (ev_var rfl) (sq_of v1') (by omega) (fun _ => rfl) (fun i x H10 e10 hx => ?_) fun i x H10 e10 hx z => by cases z) (by simp [given])
    have hm := MsV.lasts _ _ _ (e9.trans e10) (v3 i x hx)
    refine EvT.to (et_and (a := !decide (x = .non)) (b := false) (et_test (ev_op (ev_var rfl) ev_c rv_notN)) fun h => ?_) (by simp)
    rcases hm with ⟨_, rfl⟩ | ⟨y, t, _, rfl, ht⟩
    · simp at h
    · exact EvT.to (et_not (et_B (ev_isi (b := true) (ev_var rfl) (tyx_tup (st_of ht)) rfl))) rfl
  refine q_when (σ := [some (.ref a), some (.ref A), some (.ref B), some (.ref D), some (.ref R), none, none, none]) (b := false) (et_test (Ev.to (ev_opLL l1 (el_lst ea_nil (by decide)) fun p q' H10 hp hq e => rv_neD (dp_iv (ns := []) (sq_of hp)) (dp_iv (ns := []) (sq_of hq)) (shaped_iv []) (shaped_iv [])) rfl)) (fun z => by cases z) fun _ H10 e10 => ?_
  clear l1
  -- None just where 1 wins
  have l2 : EvL (tLc (iList K (tVar 4)) (gName 6) tYes (tCB rInt1 (tCons (tOp rIsN (tVar 6) (tC .non)) tNil)) [6]) [some (.ref a), some (.ref A), some (.ref B), some (.ref D), some (.ref R), none, none, none] H10 (iv (wonL g)) := by
    refine EvL.to (el_lcL (fun _ => true) (fun i => .int (if (f'.getD i none).isNone = true then 1 else 0)) (ev_var rfl) (sq_of (e10 _ _ v1')) (by omega) (fun _ => rfl) (fun _ _ _ _ _ => et_yes) fun i x H11 e11 hx _ => ?_) ?_
    · have hm := MsV.lasts _ _ _ ((e9.trans e10).trans e11) (v3 i x hx)
      exact ev_intB (Ev.to (ev_op (ev_var rfl) ev_c rv_isN) (by rw [msv_non hm]))
    · rw [given_all, vl]
      unfold wonL allP iv
      rw [List.map_map, List.map_map]
      refine List.map_congr_left fun i hi => ?_
      show V.int _ = V.int ((Zk.aget (solF g).1 (i : Int)).getD 0)
      rw [won_at F c ok (List.mem_range.mp hi)]
  have l3 : EvL (tCall (sp_won K) [] E0 (tCons (tVar 1) tNil)) [some (.ref a), some (.ref A), some (.ref B), some (.ref D), some (.ref R), none, none, none] H10 (iv (wonL g)) := el_call0 (vs := [.ref A]) (by one_item) fun H11 e11 Q q E => ⟨A, g, rt, rw', rfl, G8.mono ((e9.trans e10).trans e11), ok, q⟩
  have selfW : PyData.eqv (.list ((wonL g).map PyData.int)) (.list ((wonL g).map PyData.int)) = true := (shd_iv (n := 0) (wonL g)).2.2
  refine q_when (σ := [some (.ref a), some (.ref A), some (.ref B), some (.ref D), some (.ref R), none, none, none]) (b := false) (et_test (Ev.to (ev_opLL l2 l3 fun p q' H11 hp hq e => rv_neD (dp_iv (sq_of hp)) (dp_iv (sq_of hq)) (shaped_iv _) (shaped_iv _)) (by rw [selfW]; rfl))) (fun z => by cases z) fun _ H11 e11 => ?_
  clear l2 l3 selfW
  have e811 := (e9.trans e10).trans e11
  refine q_app (σ := [some (.ref a), some (.ref A), some (.ref B), some (.ref D), some (.ref R), none, none, none]) (v := .non) (e811 _ _ v1) (ev_var rfl) ev_c (by omega) fun H12 e12 => ?_
  have e712 : Evl.Ex H7 (upd H12 R (.lst (vals ++ [.non]))) := Evl.Ex.mut (e8.trans (e811.trans e12)) hR
  generalize upd H12 R (.lst (vals ++ [.non])) = H13 at e712
  clear v1' v1 v3 AR' G8 GB8 AD8
  have G13 := G7.mono e712
  have AD13 := AD7.mono e712
  refine q_when (σ := [some (.ref a), some (.ref A), some (.ref B), some (.ref D), some (.ref R), none, none, none]) (b := false) (EvT.to (et_or (et_test (ev_neDp (ep_measures (ev_var rfl) G13 ok l10 c F) (ep_val DpV.lasts (ev_var rfl) (FdA.dp AD13)) shF shF)) fun _ => et_test (ev_neDp ep_measures0 (ep_lst (el_lst ea_nil (by decide)) fun p H' e h => dp_iv (ns := []) (sq_of h)) (shaped_iv []) (shaped_iv []))) (by rw [self]; rfl)) (fun z => by cases z) fun _ H14 e14 => ?_
  have G14 := G13.mono e14
  refine q_asgOp ?_
  refine (ev_var rfl : Ev (tVar 1) [some (.ref a), some (.ref A), some (.ref B), some (.ref D), some (.ref R), none, none, none] H14 (.ref A)) H14 (Evl.Ex.refl _) _ fun H15 e15 => ?_
  have G15 := G14.mono e15
  refine lc_rowsR (K := K) (σ := [some (.ref a), some (.ref A), some (.ref B), some (.ref D), some (.ref R), none, none, none]) (lo := (g.length : Nat)) (hi := 11) (j := 7) (fun k => ((((g.length : Nat) : Int) + k) % 2, ((g.length : Nat) : Int) + k, [((g.length : Nat) : Int) + k])) (ea_cons (Ev.to (ev_len (ev_var rfl) G15.lst) (by rw [len_rng])) (ea_cons ev_c ea_nil)) (by omega) (fun _ => rfl) (fun i H1 e hi => ev_op (ev_var rfl) ev_c (rv_mod (by decide))) (fun i H1 e hi => ev_var rfl) (fun i H1 e hi => EvW.new (el_lst (vs := [.int (((g.length : Nat) : Int) + i)]) (ea_cons (ev_var rfl) ea_nil) (by simp))) (Evl.Ex.refl _) fun p rt2 rw2 H16 hp e16 GP => ?_
  have G16 := G15.mono e16
  refine ⟨A, p, _, _, rfl, rfl, G16.lst, GP.lst, sz_of (by simp; omega), fun M hM => ?_⟩
  have GM := GA.cat (G16.mono (Evl.Ex.new (o := .lst _) hM)) (GP.mono (Evl.Ex.new (o := .lst _) hM)) (sq_of upd_same)
  have eg : g ++ ((List.range ((11 : Int) - (g.length : Nat)).toNat).map fun (k : Nat) => ((((g.length : Nat) : Int) + k) % 2, ((g.length : Nat) : Int) + k, [((g.length : Nat) : Int) + k])) = gx g 11 := by
    have e11 : ((11 : Int) - (g.length : Nat)).toNat = 11 - g.length := by omega
    rw [e11]
    rfl
  rw [eg] at GM
  generalize upd H16 M _ = H17 at GM
  show tRet _ _ [some (.ref a), some (.ref A), some (.ref B), some (.ref D), some (.ref R), some (.ref M), none, none] H17
  have ok11 := gx_ok (m := 11) ok (by omega) (by decide)
  have ok10 := gx_ok (m := 10) ok l10 (by decide)
  have l11 := gx_len (g := g) (m := 11) (by omega)
  have c1 : Ev (tCall (sp_law_refused K) [] E0 (tCons (tVar 5) tNil)) [some (.ref a), some (.ref A), some (.ref B), some (.ref D), some (.ref R), some (.ref M), none, none] H17 (.str "many") := Ev.to (ev_call0 (vs := [.ref M]) (by one_item) (SpV.refused GM ok11)) (by rw [l11]; rfl)
  have c2 : Ev (tCall (sp_law_refused K) [] E0 (tCons (tSl (rSlL K) (tVar 5) tNoPart (tPart (tC (.int 10)))) tNil)) [some (.ref a), some (.ref A), some (.ref B), some (.ref D), some (.ref R), some (.ref M), none, none] H17 (.str "none") := fun H18 e18 Q' q' =>
    (EvL.to (el_sl (lo := none) (hi := some ((10 : Nat) : Int)) (ev_var rfl) eo_none (eo_some ev_c) GM.lst) (cutV_to _ 10)) H18 e18 _ fun T H19 hT e19 h19 => by
      have GT := GA.take (GM.mono (e18.trans e19)) (by omega : 10 ≤ (gx g 11).length) (sq_of h19)
      rw [gx_take l10 (by decide)] at GT
      refine ⟨T, gx g 10, _, _, rfl, GT, ok10, fun H20 e20 => ?_⟩
      rw [gx_len l10]
      exact q' H20 (e19.trans e20)
  exact s_ret (v := .bl (true && true)) (ev_andV (a := true) (b := true) (Ev.to (ev_op c1 ev_c (rv_eq rfl)) (by simp)) fun _ => Ev.to (ev_op c2 ev_c (rv_eq rfl)) (by simp)) fun H18 e18 => q _
end
section
variable {P : Program} {w : World} {K : PySem.W.Frag} {mg : Str → Option Value} {base : Heap}
/-- a def that is not yet told anything of -/
theorem DefC.none {x : Str} {st : Stmt} {ps : List Str} (d : DefC K mg x st ps) : CalC P w K mg base 0 x (fun _ _ _ _ => False) := by
  obtain ⟨f, fd, F, hm, hb⟩ := d.ex
  exact ⟨f, fd, ps, ⟨fun _ _ _ _ h => h.elim, fun _ _ _ _ _ _ _ _ _ _ _ _ _ h => h.elim⟩, hm, F.kp, hb⟩
end
end Gp
namespace Gp
open PySem L2 Evl
def top (i : Nat) : Stmt := PySem.Challenge.pw_gongpath_k05_measures.main.body.getD i (.Pass ⟨0, 0, 0, 0⟩)
abbrev s_is_whole : Stmt := top 9
theorem sc_is_whole : FnScope N_is_whole ["thing"] (defScope s_is_whole) := ⟨rfl, rfl, rfl, by decide +kernel, rfl, by decide +kernel, by decide +kernel⟩
theorem ok_is_whole {P : Program} {w : World} {K : PySem.W.Frag} {mg : Str → Option Value} {base : Heap} {k : Nat} {sp : Sp} (d : DefC K mg "is_whole" s_is_whole ["thing"]) (B : Bi mg) (len : ∀ vs H Q E, sp vs H Q E → vs.length = 1)
    (pure : ∀ vs H Q E, sp vs H Q E → t_is_whole K { nx := fun _ H' => Q .non H', rt := Q } (start N_is_whole vs) H) : CalC P w K mg base (k + 1) "is_whole" sp := by
  refine d.cal sc_is_whole len (fun f cdv A outer s H vs Q E hr h => ⟨t_is_whole K, ?_, pure vs H Q E h⟩)
  have hu := hu_of hr
  exact (pss_one (ps_ret (pe_and (pe_callB call_isi (by rfl) B.isinstance (by decide +kernel) (pa_cons (pv 0) (pa_cons (pe_bltn (v := .ty "int") (by rfl) B.int_ (by decide +kernel) rfl) pa_nil))) (pe_one (pe_not (pe_callB call_isi (by rfl) B.isinstance (by decide +kernel) (pa_cons (pv 0) (pa_cons (pe_bltn (v := .ty "bool") (by rfl) B.bool_ (by decide +kernel) rfl) pa_nil))))))))
abbrev s_is_place : Stmt := top 10
theorem sc_is_place : FnScope N_is_place ["thing", "many"] (defScope s_is_place) := ⟨rfl, rfl, rfl, by decide +kernel, rfl, by decide +kernel, by decide +kernel⟩
theorem ok_is_place {P : Program} {w : World} {K : PySem.W.Frag} {mg : Str → Option Value} {base : Heap} {k : Nat} {sp : Sp} (d : DefC K mg "is_place" s_is_place ["thing", "many"]) (B : Bi mg) {k_is_whole : Nat} {sp_is_whole : Sp} (c_is_whole : CalC P w K mg base k_is_whole "is_whole" sp_is_whole) (hk_is_whole : k_is_whole ≤ k) (len : ∀ vs H Q E, sp vs H Q E → vs.length = 2)
    (pure : ∀ vs H Q E, sp vs H Q E → t_is_place K sp_is_whole { nx := fun _ H' => Q .non H', rt := Q } (start N_is_place vs) H) : CalC P w K mg base (k + 1) "is_place" sp := by
  refine d.cal sc_is_place len (fun f cdv A outer s H vs Q E hr h => ⟨t_is_place K sp_is_whole, ?_, pure vs H Q E h⟩)
  have hu := hu_of hr
  exact (pss_one (ps_ret (pe_and (pe_cc c_is_whole hr hk_is_whole (by rfl) (pa_cons (pv 0) pa_nil)) (pe_one (pe_chain op_le op_lt pe_int (pv 0) (pv 1))))))
abbrev s_are_places : Stmt := top 11
theorem sc_are_places : FnScope N_are_places ["thing", "many"] (defScope s_are_places) := ⟨rfl, rfl, rfl, by decide +kernel, rfl, by decide +kernel, by decide +kernel⟩
theorem ok_are_places {P : Program} {w : World} {K : PySem.W.Frag} {mg : Str → Option Value} {base : Heap} {k : Nat} {sp : Sp} (d : DefC K mg "are_places" s_are_places ["thing", "many"]) (B : Bi mg) {k_is_place : Nat} {sp_is_place : Sp} (c_is_place : CalC P w K mg base k_is_place "is_place" sp_is_place) (hk_is_place : k_is_place ≤ k) (len : ∀ vs H Q E, sp vs H Q E → vs.length = 2)
    (pure : ∀ vs H Q E, sp vs H Q E → t_are_places K sp_is_place { nx := fun _ H' => Q .non H', rt := Q } (start N_are_places vs) H) : CalC P w K mg base (k + 1) "are_places" sp := by
  refine d.cal sc_are_places len (fun f cdv A outer s H vs Q E hr h => ⟨t_are_places K sp_is_place, ?_, pure vs H Q E h⟩)
  have hu := hu_of hr
  exact (pss_cons (ps_if (PW.pt (pw_or (pt_not (pt_val (pe_callB call_isi (by rfl) B.isinstance (by decide +kernel) (pa_cons (pv 0) (pa_cons (pe_bltn (v := .ty "list") (by rfl) B.list_ (by decide +kernel) rfl) pa_nil))))) (pw_or1 (pt_not (pt_val (pe_callB (cr_all rfl) (by rfl) B.all (by decide +kernel) (pa_cons (pe_lc (own := [("one", 2)]) (g := (gName 2)) rfl sc_are_places.nd (pi_list (pv 0)) (blkOk_by (own := [("one", 2)]) (N := N_are_places) (sc := defScope s_are_places) (by decide +kernel)) (fun _ _ _ _ _ => (pg_name (i := 2) sc_are_places.nd rfl (Or.inl rfl))) (fun _ _ _ _ _ => pts_nil) (fun _ _ _ _ _ => (pe_cc c_is_place hr hk_is_place (by rfl) (pa_cons (pv 2) (pa_cons (pv 1) pa_nil))))) pa_nil))))))) (pss_one (ps_ret pe_bl)) pss_nil)
  (pss_one (ps_ret (pe_cmpR op_eq (pe_lenSetX (by rfl) B.len (by rfl) B.set_ (pv 0)) (pe_callB call_len_seq (by rfl) B.len PySem.boot_len (pa_cons (pv 0) pa_nil)) (nomark _)))))
abbrev s_is_row : Stmt := top 12
theorem sc_is_row : FnScope N_is_row ["thing", "many"] (defScope s_is_row) := ⟨rfl, rfl, rfl, by decide +kernel, rfl, by decide +kernel, by decide +kernel⟩
theorem ok_is_row {P : Program} {w : World} {K : PySem.W.Frag} {mg : Str → Option Value} {base : Heap} {k : Nat} {sp : Sp} (d : DefC K mg "is_row" s_is_row ["thing", "many"]) (B : Bi mg) {k_is_place : Nat} {sp_is_place : Sp} (c_is_place : CalC P w K mg base k_is_place "is_place" sp_is_place) (hk_is_place : k_is_place ≤ k) {k_is_whole : Nat} {sp_is_whole : Sp} (c_is_whole : CalC P w K mg base k_is_whole "is_whole" sp_is_whole) (hk_is_whole : k_is_whole ≤ k) {k_are_places : Nat} {sp_are_places : Sp} (c_are_places : CalC P w K mg base k_are_places "are_places" sp_are_places) (hk_are_places : k_are_places ≤ k) (len : ∀ vs H Q E, sp vs H Q E → vs.length = 2)
    (pure : ∀ vs H Q E, sp vs H Q E → t_is_row K sp_is_place sp_is_whole sp_are_places { nx := fun _ H' => Q .non H', rt := Q } (start N_is_row vs) H) : CalC P w K mg base (k + 1) "is_row" sp := by
  refine d.cal sc_is_row len (fun f cdv A outer s H vs Q E hr h => ⟨t_is_row K sp_is_place sp_is_whole sp_are_places, ?_, pure vs H Q E h⟩)
  have hu := hu_of hr
  exact (pss_cons (ps_if (PW.pt (pw_or (pt_not (pt_val (pe_callB call_isi (by rfl) B.isinstance (by decide +kernel) (pa_cons (pv 0) (pa_cons (pe_bltn (v := .ty "tuple") (by rfl) B.tuple_ (by decide +kernel) rfl) pa_nil))))) (pw_or1 (pt_cmpR op_ne (pe_callB call_len_seq (by rfl) B.len PySem.boot_len (pa_cons (pv 0) pa_nil)) pe_int (nomark _))))) (pss_one (ps_ret pe_bl)) pss_nil)
  (pss_cons (ps_asg (pv 0) (pg_tup rfl (pgs_cons (pg_name (i := 2) sc_is_row.nd rfl (Or.inl rfl)) (pgs_cons (pg_name (i := 3) sc_is_row.nd rfl (Or.inl rfl)) (pgs_cons (pg_name (i := 4) sc_is_row.nd rfl (Or.inl rfl)) pgs_nil)))))
  (pss_cons (ps_if (PW.pt (pw_or (pt_not (pt_val (pe_cc c_is_place hr hk_is_place (by rfl) (pa_cons (pv 2) (pa_cons pe_int pa_nil))))) (pw_or (pt_not (pt_val (pe_cc c_is_whole hr hk_is_whole (by rfl) (pa_cons (pv 3) pa_nil)))) (pw_or1 (pt_cmpR op_lt (pv 3) pe_int (nomark _)))))) (pss_one (ps_ret pe_bl)) pss_nil)
  (pss_one (ps_ret (pe_and (pe_cc c_are_places hr hk_are_places (by rfl) (pa_cons (pv 4) (pa_cons (pv 1) pa_nil))) (pe_one (pe_cmpR (op_neD hr.units) (pv 4) (pe_lst pa_nil) (nomark _)))))))))
abbrev s_need_game : Stmt := top 13
theorem sc_need_game : FnScope N_need_game ["game"] (defScope s_need_game) := ⟨rfl, rfl, rfl, by decide +kernel, rfl, by decide +kernel, by decide +kernel⟩
theorem ok_need_game {P : Program} {w : World} {K : PySem.W.Frag} {mg : Str → Option Value} {base : Heap} {k : Nat} {sp : Sp} (d : DefC K mg "need_game" s_need_game ["game"]) (B : Bi mg) {tk_MOST_PLACES : Tok} (BMOST_PLACES : mg "MOST_PLACES" = some (.int 40 tk_MOST_PLACES)) {k_is_row : Nat} {sp_is_row : Sp} (c_is_row : CalC P w K mg base k_is_row "is_row" sp_is_row) (hk_is_row : k_is_row ≤ k) (len : ∀ vs H Q E, sp vs H Q E → vs.length = 1)
    (pure : ∀ vs H Q E, sp vs H Q E → t_need_game K sp_is_row { nx := fun _ H' => Q .non H', rt := Q } (start N_need_game vs) H) : CalC P w K mg base (k + 1) "need_game" sp := by
  refine d.cal sc_need_game len (fun f cdv A outer s H vs Q E hr h => ⟨t_need_game K sp_is_row, ?_, pure vs H Q E h⟩)
  have hu := hu_of hr
  exact (pss_cons (ps_if (PW.pt (pw_or (pt_not (pt_val (pe_callB call_isi (by rfl) B.isinstance (by decide +kernel) (pa_cons (pv 0) (pa_cons (pe_bltn (v := .ty "list") (by rfl) B.list_ (by decide +kernel) rfl) pa_nil))))) (pw_or1 (pt_cmpR op_gt (pe_callB call_len_seq (by rfl) B.len PySem.boot_len (pa_cons (pv 0) pa_nil)) (pe_glob rfl BMOST_PLACES ⟨_, rfl⟩) (nomark _))))) (pss_one ps_never) pss_nil)
  (pss_one (ps_for PassesOwn.never rfl (pi_enum (by rfl) B.enumerate (pa_cons (pv 0) pa_nil)) (pg_tup rfl (pgs_cons (pg_name (i := 1) sc_need_game.nd rfl (Or.inl rfl)) (pgs_cons (pg_name (i := 2) sc_need_game.nd rfl (Or.inl rfl)) pgs_nil))) (pss_one (ps_if (pt_not (pt_val (pe_cc c_is_row hr hk_is_row (by rfl) (pa_cons (pv 2) (pa_cons (pe_callB call_len_seq (by rfl) B.len PySem.boot_len (pa_cons (pv 0) pa_nil)) pa_nil))))) (pss_one ps_never) pss_nil)))))
abbrev s_counts_of : Stmt := top 16
theorem sc_counts_of : FnScope N_counts_of ["game"] (defScope s_counts_of) := ⟨rfl, rfl, rfl, by decide +kernel, rfl, by decide +kernel, by decide +kernel⟩
theorem ok_counts_of {P : Program} {w : World} {K : PySem.W.Frag} {mg : Str → Option Value} {base : Heap} {k : Nat} {sp : Sp} (d : DefC K mg "counts_of" s_counts_of ["game"]) (B : Bi mg) (len : ∀ vs H Q E, sp vs H Q E → vs.length = 1)
    (pure : ∀ vs H Q E, sp vs H Q E → t_counts_of K { nx := fun _ H' => Q .non H', rt := Q } (start N_counts_of vs) H) : CalC P w K mg base (k + 1) "counts_of" sp := by
  refine d.cal sc_counts_of len (fun f cdv A outer s H vs Q E hr h => ⟨t_counts_of K, ?_, pure vs H Q E h⟩)
  have hu := hu_of hr
  exact (pss_cons (ps_set (i := 1) sc_counts_of.nd rfl (Or.inl rfl) (pe_sortedSet (by rfl) B.sorted (by rfl) B.set_ (pe_lc (own := [("row", 2)]) (g := (gName 2)) rfl sc_counts_of.nd (pi_list (pv 0)) (blkOk_by (own := [("row", 2)]) (N := N_counts_of) (sc := defScope s_counts_of) (by decide +kernel)) (fun _ _ _ _ _ => (pg_name (i := 2) sc_counts_of.nd rfl (Or.inl rfl))) (fun _ _ _ _ _ => (pts_one (pt_cmpR op_eq (pe_op op_mod (pe_ix ix_tup (pv 2) pe_int (fun _ _ => rfl)) pe_int) pe_int (nomark _)))) (fun _ _ _ _ _ => (pe_ix ix_tup (pv 2) pe_int (fun _ _ => rfl))))))
  (pss_one (ps_ret (pe_lc (own := [("number", 3)]) (g := (gName 3)) rfl sc_counts_of.nd (pi_reversed (by rfl) B.reversed (pa_cons (pv 1) pa_nil)) (blkOk_by (own := [("number", 3)]) (N := N_counts_of) (sc := defScope s_counts_of) (by decide +kernel)) (fun _ _ _ _ _ => (pg_name (i := 3) sc_counts_of.nd rfl (Or.inr rfl))) (fun _ _ _ _ _ => pts_nil) (fun _ _ _ _ _ => (pe_tup (pa_cons (pv 3) (pa_cons (pe_callB call_len_seq (by rfl) B.len PySem.boot_len (pa_cons (pe_lc (own := [("row", 2)]) (g := (gName 2)) rfl sc_counts_of.nd (pi_list (pv 0)) (blkOk_by (own := [("row", 2)]) (N := N_counts_of) (sc := (⟨.function, [(Str.ofString ".0", NameKind.local), (Str.ofString "number", NameKind.cell), (Str.ofString "len", NameKind.globalImplicit), (Str.ofString "game", NameKind.cell)], false, false, []⟩ : Scope)) (by decide +kernel)) (fun _ _ _ _ _ => (pg_name (i := 2) sc_counts_of.nd rfl (Or.inl rfl))) (fun _ _ _ _ _ => (pts_one (pt_cmpR op_eq (pe_ix ix_tup (pv 2) pe_int (fun _ _ => rfl)) (pv 3) (nomark _)))) (fun _ _ _ _ _ => (pv 2))) pa_nil)) pa_nil))))))))
abbrev s_behind : Stmt := top 17
theorem sc_behind : FnScope N_behind ["counts", "number", "measure"] (defScope s_behind) := ⟨rfl, rfl, rfl, by decide +kernel, rfl, by decide +kernel, by decide +kernel⟩
theorem ok_behind {P : Program} {w : World} {K : PySem.W.Frag} {mg : Str → Option Value} {base : Heap} {k : Nat} {sp : Sp} (d : DefC K mg "behind" s_behind ["counts", "number", "measure"]) (B : Bi mg) (len : ∀ vs H Q E, sp vs H Q E → vs.length = 3)
    (pure : ∀ vs H Q E, sp vs H Q E → t_behind K { nx := fun _ H' => Q .non H', rt := Q } (start N_behind vs) H) : CalC P w K mg base (k + 1) "behind" sp := by
  refine d.cal sc_behind len (fun f cdv A outer s H vs Q E hr h => ⟨t_behind K, ?_, pure vs H Q E h⟩)
  have hu := hu_of hr
  exact (pss_cons (ps_if (pt_cmpR op_isN (pv 2) pe_non (nomark _)) (pss_one (ps_ret pe_non)) pss_nil)
  (pss_cons (ps_set (i := 3) sc_behind.nd rfl (Or.inl rfl) (pe_callB call_len_seq (by rfl) B.len PySem.boot_len (pa_cons (pe_lc (own := [("odd", 6), ("most", 7)]) (g := (gTup K 2 (gCons (gName 6) (gCons (gName 7) gNil)))) rfl sc_behind.nd (pi_list (pv 0)) (blkOk_by (own := [("odd", 6), ("most", 7)]) (N := N_behind) (sc := defScope s_behind) (by decide +kernel)) (fun _ _ _ _ _ => (pg_tup rfl (pgs_cons (pg_name (i := 6) sc_behind.nd rfl (Or.inl rfl)) (pgs_cons (pg_name (i := 7) sc_behind.nd rfl (Or.inl rfl)) pgs_nil)))) (fun _ _ _ _ _ => (pts_one (pt_cmpR op_ge (pv 6) (pv 1) (nomark _)))) (fun _ _ _ _ _ => (pv 6))) pa_nil)))
  (pss_cons (ps_set (i := 4) sc_behind.nd rfl (Or.inl rfl) (pe_op op_cat (pe_callTy call_list_of (by rfl) B.list_ (by decide +kernel) (pa_cons (pe_slice sl_tupA (pv 2) po_none (po_some (pv 3))) pa_nil)) (pe_op op_rep (pe_lst (pa_cons pe_int pa_nil)) (pe_op op_sub (pe_callB call_len_seq (by rfl) B.len PySem.boot_len (pa_cons (pv 0) pa_nil)) (pv 3)))))
  (pss_cons (ps_if (pt_cmpR op_eq (pe_op op_mod (pv 1) pe_int) pe_int (nomark _)) (pss_one (ps_ret (pe_callTy call_tuple_of (by rfl) B.tuple_ (by decide +kernel) (pa_cons (pv 4) pa_nil)))) pss_nil)
  (pss_cons (ps_set (i := 5) sc_behind.nd rfl (Or.inl rfl) (pe_op op_sub (pv 3) pe_int))
  (pss_cons (ps_while PassesOwn.never (pt_cmpR op_ge (pv 5) pe_int (nomark _)) (pss_cons (ps_if (pt_cmpR op_lt (pe_ix ix_list (pv 4) (pv 5) (fun _ _ => rfl)) (pe_ix ix_tup (pe_ix ix_list (pv 0) (pv 5) (fun _ _ => rfl)) pe_int (fun _ _ => rfl)) (nomark _)) (pss_cons (ps_augS (pv 4) (pv 5) get_list pe_int ip_add set_list)
  (pss_one (ps_ret (pe_callTy call_tuple_of (by rfl) B.tuple_ (by decide +kernel) (pa_cons (pv 4) pa_nil))))) pss_nil)
  (pss_cons (ps_asg pe_int (pg_sub (pv 4) (pv 5) set_list))
  (pss_one (ps_aug (i := 5) sc_behind.nd rfl (Or.inl rfl) pe_int ip_sub)))))
  (pss_one (ps_ret pe_non))))))))
abbrev s_is_more : Stmt := top 18
theorem sc_is_more : FnScope N_is_more ["one", "other"] (defScope s_is_more) := ⟨rfl, rfl, rfl, by decide +kernel, rfl, by decide +kernel, by decide +kernel⟩
theorem ok_is_more {P : Program} {w : World} {K : PySem.W.Frag} {mg : Str → Option Value} {base : Heap} {k : Nat} {sp : Sp} (d : DefC K mg "is_more" s_is_more ["one", "other"]) (B : Bi mg) (len : ∀ vs H Q E, sp vs H Q E → vs.length = 2)
    (pure : ∀ vs H Q E, sp vs H Q E → t_is_more K { nx := fun _ H' => Q .non H', rt := Q } (start N_is_more vs) H) : CalC P w K mg base (k + 1) "is_more" sp := by
  refine d.cal sc_is_more len (fun f cdv A outer s H vs Q E hr h => ⟨t_is_more K, ?_, pure vs H Q E h⟩)
  have hu := hu_of hr
  exact (pss_cons (ps_if (PW.pt (pw_or (pt_cmpR op_isN (pv 0) pe_non (nomark _)) (pw_or1 (pt_cmpR op_isN (pv 1) pe_non (nomark _))))) (pss_one (ps_ret (pe_and (pe_cmpR op_isN (pv 0) pe_non (nomark _)) (pe_one (pe_cmpR op_notN (pv 1) pe_non (nomark _)))))) pss_nil)
  (pss_one (ps_ret (pe_cmpR (op_gtD hr.units) (pv 0) (pv 1) (nomark _)))))
abbrev s_lifted : Stmt := top 19
theorem sc_lifted : FnScope N_lifted ["game", "counts", "known", "place"] (defScope s_lifted) := ⟨rfl, rfl, rfl, by decide +kernel, rfl, by decide +kernel, by decide +kernel⟩
theorem ok_lifted {P : Program} {w : World} {K : PySem.W.Frag} {mg : Str → Option Value} {base : Heap} {k : Nat} {sp : Sp} (d : DefC K mg "lifted" s_lifted ["game", "counts", "known", "place"]) (B : Bi mg) {k_behind : Nat} {sp_behind : Sp} (c_behind : CalC P w K mg base k_behind "behind" sp_behind) (hk_behind : k_behind ≤ k) {k_is_more : Nat} {sp_is_more : Sp} (c_is_more : CalC P w K mg base k_is_more "is_more" sp_is_more) (hk_is_more : k_is_more ≤ k) (len : ∀ vs H Q E, sp vs H Q E → vs.length = 4)
    (pure : ∀ vs H Q E, sp vs H Q E → t_lifted K sp_behind sp_is_more { nx := fun _ H' => Q .non H', rt := Q } (start N_lifted vs) H) : CalC P w K mg base (k + 1) "lifted" sp := by
  refine d.cal sc_lifted len (fun f cdv A outer s H vs Q E hr h => ⟨t_lifted K sp_behind sp_is_more, ?_, pure vs H Q E h⟩)
  have hu := hu_of hr
  exact (pss_cons (ps_asg (pe_ix ix_list (pv 0) (pv 3) (fun _ _ => rfl)) (pg_tup rfl (pgs_cons (pg_name (i := 4) sc_lifted.nd rfl (Or.inl rfl)) (pgs_cons (pg_name (i := 5) sc_lifted.nd rfl (Or.inr rfl)) (pgs_cons (pg_name (i := 6) sc_lifted.nd rfl (Or.inl rfl)) pgs_nil)))))
  (pss_cons (ps_setLc (i := 7) (own := [("way", 10)]) (g := (gName 10)) rfl sc_lifted.nd rfl rfl (sw_true rfl rfl rfl (by decide +kernel)) (pi_list (pv 6)) (blkOk_by (own := [("way", 10)]) (N := N_lifted) (sc := defScope s_lifted) (by decide +kernel)) (fun _ _ _ _ _ => (pg_name (i := 10) sc_lifted.nd rfl (Or.inl rfl))) (fun _ _ _ _ _ => pts_nil) (fun _ _ _ _ _ => (pe_cc c_behind hr hk_behind (by rfl) (pa_cons (pv 1) (pa_cons (pv 5) (pa_cons (pe_ix ix_list (pv 2) (pv 10) (fun _ _ => rfl)) pa_nil))))))
  (pss_cons (ps_set (i := 8) sc_lifted.nd rfl (Or.inl rfl) (pe_ix ix_list (pv 7) pe_int (fun _ _ => rfl)))
  (pss_cons (ps_for PassesOwn.never rfl (pi_list (pe_slice sl_list (pv 7) (po_some pe_int) po_none)) (pg_name (i := 9) sc_lifted.nd rfl (Or.inl rfl)) (pss_one (ps_if (PW.pt (pw_or (PW.pt (pw_and (pt_cmpR op_eq (pv 4) pe_int (nomark _)) (pw_and1 (pt_val (pe_cc c_is_more hr hk_is_more (by rfl) (pa_cons (pv 8) (pa_cons (pv 9) pa_nil))))))) (pw_or1 (PW.pt (pw_and (pt_cmpR op_eq (pv 4) pe_int (nomark _)) (pw_and1 (pt_val (pe_cc c_is_more hr hk_is_more (by rfl) (pa_cons (pv 9) (pa_cons (pv 8) pa_nil)))))))))) (pss_one (ps_set (i := 8) sc_lifted.nd rfl (Or.inl rfl) (pv 9))) pss_nil)))
  (pss_one (ps_ret (pv 8)))))))
abbrev s_measures : Stmt := top 20
theorem sc_measures : FnScope N_measures ["game"] (defScope s_measures) := ⟨rfl, rfl, rfl, by decide +kernel, rfl, by decide +kernel, by decide +kernel⟩
theorem ok_measures {P : Program} {w : World} {K : PySem.W.Frag} {mg : Str → Option Value} {base : Heap} {k : Nat} {sp : Sp} (d : DefC K mg "measures" s_measures ["game"]) (B : Bi mg) {tk_MOST_MEASURED : Tok} (BMOST_MEASURED : mg "MOST_MEASURED" = some (.int 10 tk_MOST_MEASURED)) {k_need_game : Nat} {sp_need_game : Sp} (c_need_game : CalC P w K mg base k_need_game "need_game" sp_need_game) (hk_need_game : k_need_game ≤ k) {k_counts_of : Nat} {sp_counts_of : Sp} (c_counts_of : CalC P w K mg base k_counts_of "counts_of" sp_counts_of) (hk_counts_of : k_counts_of ≤ k) {k_lifted : Nat} {sp_lifted : Sp} (c_lifted : CalC P w K mg base k_lifted "lifted" sp_lifted) (hk_lifted : k_lifted ≤ k) {k_is_more : Nat} {sp_is_more : Sp} (c_is_more : CalC P w K mg base k_is_more "is_more" sp_is_more) (hk_is_more : k_is_more ≤ k) {C_TooMany : Addr} (T_TooMany : ExcT K mg "TooMany" C_TooMany) (x_TooMany : PySem.W.excIn K C_TooMany [.type "ValueError", .type "Exception", .type "BaseException", .type "object"] "ValueError.__new__" = true) (len : ∀ vs H Q E, sp vs H Q E → vs.length = 1)
    (pure : ∀ vs H Q E, sp vs H Q E → t_measures K sp_need_game sp_counts_of sp_lifted sp_is_more C_TooMany (fun cls d _ H' => E cls d H') { nx := fun _ H' => Q .non H', rt := Q } (start N_measures vs) H) : CalX P w K mg base (k + 1) "measures" sp := by
  refine d.calX sc_measures len (fun f cdv A outer s H vs Q E hr h tk => ⟨t_measures K sp_need_game sp_counts_of sp_lifted sp_is_more C_TooMany (fun cls d _ H' => E cls d H'), ?_, pure vs H Q E h⟩)
  have hu := hu_of hr
  exact (pss_cons (ps_expr (pe_cc c_need_game hr hk_need_game (by rfl) (pa_cons (pv 0) pa_nil)))
  (pss_cons (ps_if (pt_cmpR op_gt (pe_callB call_len_seq (by rfl) B.len PySem.boot_len (pa_cons (pv 0) pa_nil)) (pe_glob rfl BMOST_MEASURED ⟨_, rfl⟩) (nomark _)) (pss_one (ps_raise rfl tk (pmk_own PySem.F.excBase_ValueError x_TooMany T_TooMany.gC T_TooMany.kC (raises_own T_TooMany.isx T_TooMany.ty) (by rfl)))) pss_nil)
  (pss_cons (ps_set (i := 1) sc_measures.nd rfl (Or.inr rfl) (pe_cc c_counts_of hr hk_counts_of (by rfl) (pa_cons (pv 0) pa_nil)))
  (pss_cons (ps_setLc (i := 2) (own := [("row", 6)]) (g := (gName 6)) rfl sc_measures.nd rfl rfl (sw_true rfl rfl rfl (by decide +kernel)) (pi_list (pv 0)) (blkOk_by (own := [("row", 6)]) (N := N_measures) (sc := defScope s_measures) (by decide +kernel)) (fun _ _ _ _ _ => (pg_name (i := 6) sc_measures.nd rfl (Or.inl rfl))) (fun _ _ _ _ _ => pts_nil) (fun _ _ _ _ _ => (pe_callTy call_tuple_of (by rfl) B.tuple_ (by decide +kernel) (pa_cons (pe_op op_rep (pe_lst (pa_cons pe_int pa_nil)) (pe_callB call_len_seq (by rfl) B.len PySem.boot_len (pa_cons (pv 1) pa_nil))) pa_nil))))
  (pss_cons (ps_set (i := 3) sc_measures.nd rfl (Or.inl rfl) pe_bl)
  (pss_cons (ps_while (passes_of rfl) (pt_val (pv 3)) (pss_cons (ps_set (i := 3) sc_measures.nd rfl (Or.inl rfl) pe_bl)
  (pss_one (ps_for (passes_of rfl) rfl (pi_range1 (by rfl) B.range (pa_cons (pe_callB call_len_seq (by rfl) B.len PySem.boot_len (pa_cons (pv 0) pa_nil)) pa_nil)) (pg_name (i := 4) sc_measures.nd rfl (Or.inl rfl)) (pss_cons (ps_set (i := 5) sc_measures.nd rfl (Or.inl rfl) (pe_cc c_lifted hr hk_lifted (by rfl) (pa_cons (pv 0) (pa_cons (pv 1) (pa_cons (pv 2) (pa_cons (pv 4) pa_nil))))))
  (pss_one (ps_if (pt_val (pe_cc c_is_more hr hk_is_more (by rfl) (pa_cons (pv 5) (pa_cons (pe_ix ix_list (pv 2) (pv 4) (fun _ _ => rfl)) pa_nil)))) (pss_cons (ps_asg (pv 5) (pg_sub (pv 2) (pv 4) set_list))
  (pss_one (ps_set (i := 3) sc_measures.nd rfl (Or.inl rfl) pe_bl))) pss_nil)))))))
  (pss_one (ps_ret (pv 2)))))))))
abbrev s_drawn_in : Stmt := top 22
theorem sc_drawn_in : FnScope N_drawn_in ["game", "within", "player", "goals"] (defScope s_drawn_in) := ⟨rfl, rfl, rfl, by decide +kernel, rfl, by decide +kernel, by decide +kernel⟩
theorem ok_drawn_in {P : Program} {w : World} {K : PySem.W.Frag} {mg : Str → Option Value} {base : Heap} {k : Nat} {sp : Sp} (d : DefC K mg "drawn_in" s_drawn_in ["game", "within", "player", "goals"]) (B : Bi mg) (len : ∀ vs H Q E, sp vs H Q E → vs.length = 4)
    (pure : ∀ vs H Q E, sp vs H Q E → t_drawn_in K { nx := fun _ H' => Q .non H', rt := Q } (start N_drawn_in vs) H) : CalC P w K mg base (k + 1) "drawn_in" sp := by
  refine d.cal sc_drawn_in len (fun f cdv A outer s H vs Q E hr h => ⟨t_drawn_in K, ?_, pure vs H Q E h⟩)
  have hu := hu_of hr
  exact (pss_cons (ps_set (i := 4) sc_drawn_in.nd rfl (Or.inr rfl) pe_dnewK)
  (pss_cons (ps_for PassesOwn.never rfl (pi_list (pv 3)) (pg_name (i := 5) sc_drawn_in.nd rfl (Or.inl rfl)) (pss_one (ps_dput hu (pv 4) (pv 5) pe_int rfl)))
  (pss_cons (ps_set (i := 6) sc_drawn_in.nd rfl (Or.inl rfl) pe_dnewK)
  (pss_cons (ps_set (i := 7) sc_drawn_in.nd rfl (Or.inr rfl) pe_int)
  (pss_cons (ps_set (i := 8) sc_drawn_in.nd rfl (Or.inl rfl) pe_bl)
  (pss_cons (ps_while PassesOwn.never (pt_val (pv 8)) (pss_cons (ps_set (i := 8) sc_drawn_in.nd rfl (Or.inl rfl) pe_bl)
  (pss_cons (ps_aug (i := 7) sc_drawn_in.nd rfl (Or.inr rfl) pe_int ip_add)
  (pss_one (ps_for PassesOwn.never rfl (pi_list (pe_lc (own := [("one", 11)]) (g := (gName 11)) rfl sc_drawn_in.nd (pi_list (pv 1)) (blkOk_by (own := [("one", 11)]) (N := N_drawn_in) (sc := defScope s_drawn_in) (by decide +kernel)) (fun _ _ _ _ _ => (pg_name (i := 11) sc_drawn_in.nd rfl (Or.inl rfl))) (fun _ _ _ _ _ => (pts_one (pt_cmp (pc_dnotin hu (pv 11) (pv 4))))) (fun _ _ _ _ _ => (pv 11)))) (pg_name (i := 5) sc_drawn_in.nd rfl (Or.inl rfl)) (pss_cons (ps_setLc (i := 9) (own := [("way", 12)]) (g := (gName 12)) rfl sc_drawn_in.nd rfl rfl (sw_true rfl rfl rfl (by decide +kernel)) (pi_list (pe_ix ix_tup (pe_ix ix_list (pv 0) (pv 5) (fun _ _ => rfl)) pe_int (fun _ _ => rfl))) (blkOk_by (own := [("way", 12)]) (N := N_drawn_in) (sc := defScope s_drawn_in) (by decide +kernel)) (fun _ _ _ _ _ => (pg_name (i := 12) sc_drawn_in.nd rfl (Or.inl rfl))) (fun _ _ _ _ _ => (pts_one (pt_cmpR op_in_seq (pv 12) (pv 1) rfl))) (fun _ _ _ _ _ => (pv 12)))
  (pss_cons (ps_setLc (i := 10) (own := [("way", 12)]) (g := (gName 12)) rfl sc_drawn_in.nd rfl rfl (sw_true rfl rfl rfl (by decide +kernel)) (pi_list (pv 9)) (blkOk_by (own := [("way", 12)]) (N := N_drawn_in) (sc := defScope s_drawn_in) (by decide +kernel)) (fun _ _ _ _ _ => (pg_name (i := 12) sc_drawn_in.nd rfl (Or.inl rfl))) (fun _ _ _ _ _ => (pts_one (pt_cmpR op_lt (pe_dget2 hu (pv 4) (pv 12) (pv 7) ⟨by rfl, by rfl, by rfl, by rfl⟩) (pv 7) (nomark _)))) (fun _ _ _ _ _ => (pv 12)))
  (pss_one (ps_if (PW.pt (pw_and (pt_cmpR op_eq (pe_ix ix_tup (pe_ix ix_list (pv 0) (pv 5) (fun _ _ => rfl)) pe_int (fun _ _ => rfl)) (pv 2) (nomark _)) (pw_and1 (pt_cmpR (op_neD hr.units) (pv 10) (pe_lst pa_nil) (nomark _))))) (pss_cons (ps_dput hu (pv 6) (pv 5) (pe_ix ix_list (pv 10) pe_int (fun _ _ => rfl)) rfl)
  (pss_cons (ps_dput hu (pv 4) (pv 5) (pv 7) rfl)
  (pss_one (ps_set (i := 8) sc_drawn_in.nd rfl (Or.inl rfl) pe_bl)))) (pss_one (ps_if (PW.pt (pw_and (pt_cmpR op_ne (pe_ix ix_tup (pe_ix ix_list (pv 0) (pv 5) (fun _ _ => rfl)) pe_int (fun _ _ => rfl)) (pv 2) (nomark _)) (pw_and1 (pt_cmpR op_eq (pe_callB call_len_seq (by rfl) B.len PySem.boot_len (pa_cons (pv 10) pa_nil)) (pe_callB call_len_seq (by rfl) B.len PySem.boot_len (pa_cons (pv 9) pa_nil)) (nomark _))))) (pss_cons (ps_dput hu (pv 4) (pv 5) (pv 7) rfl)
  (pss_one (ps_set (i := 8) sc_drawn_in.nd rfl (Or.inl rfl) pe_bl))) pss_nil)))))))))))
  (pss_one (ps_ret (pe_tup (pa_cons (pv 4) (pa_cons (pv 6) pa_nil)))))))))))
abbrev s_won_by_all : Stmt := top 25
theorem sc_won_by_all : FnScope N_won_by_all ["game", "within", "player", "steps", "pulls"] (defScope s_won_by_all) := ⟨rfl, rfl, rfl, by decide +kernel, rfl, by decide +kernel, by decide +kernel⟩
theorem ok_won_by_all {P : Program} {w : World} {K : PySem.W.Frag} {mg : Str → Option Value} {base : Heap} {k : Nat} {sp : Sp} (d : DefC K mg "won_by_all" s_won_by_all ["game", "within", "player", "steps", "pulls"]) (B : Bi mg) (len : ∀ vs H Q E, sp vs H Q E → vs.length = 5)
    (pure : ∀ vs H Q E, sp vs H Q E → t_won_by_all K { nx := fun _ H' => Q .non H', rt := Q } (start N_won_by_all vs) H) : CalC P w K mg base (k + 1) "won_by_all" sp := by
  refine d.cal sc_won_by_all len (fun f cdv A outer s H vs Q E hr h => ⟨t_won_by_all K, ?_, pure vs H Q E h⟩)
  have hu := hu_of hr
  exact (pss_cons (ps_set (i := 5) sc_won_by_all.nd rfl (Or.inl rfl) pe_dnewK)
  (pss_cons (ps_set (i := 6) sc_won_by_all.nd rfl (Or.inl rfl) pe_dnewK)
  (pss_cons (ps_for PassesOwn.never rfl (pi_list (pv 1)) (pg_name (i := 7) sc_won_by_all.nd rfl (Or.inl rfl)) (pss_cons (ps_dput hu (pv 5) (pv 7) (pv 2) rfl)
  (pss_one (ps_if (PW.pt (pw_and (pt_cmpR op_eq (pe_ix ix_tup (pe_ix ix_list (pv 0) (pv 7) (fun _ _ => rfl)) pe_int (fun _ _ => rfl)) (pv 2) (nomark _)) (pw_and1 (pt_cmp (pc_din hu (pv 7) (pv 4)))))) (pss_one (ps_dput hu (pv 6) (pv 7) (pe_dget hu (pv 4) (pv 7) (fun _ _ => rfl)) rfl)) (pss_one (ps_if (PW.pt (pw_and (pt_cmpR op_eq (pe_ix ix_tup (pe_ix ix_list (pv 0) (pv 7) (fun _ _ => rfl)) pe_int (fun _ _ => rfl)) (pv 2) (nomark _)) (pw_and1 (pt_cmp (pc_din hu (pv 7) (pv 3)))))) (pss_one (ps_dput hu (pv 6) (pv 7) (pe_dget hu (pv 3) (pv 7) (fun _ _ => rfl)) rfl)) (pss_one (ps_if (pt_cmpR op_eq (pe_ix ix_tup (pe_ix ix_list (pv 0) (pv 7) (fun _ _ => rfl)) pe_int (fun _ _ => rfl)) (pv 2) (nomark _)) (pss_one (ps_dput hu (pv 6) (pv 7) (pe_ix ix_list (pe_lc (own := [("way", 8)]) (g := (gName 8)) rfl sc_won_by_all.nd (pi_list (pe_ix ix_tup (pe_ix ix_list (pv 0) (pv 7) (fun _ _ => rfl)) pe_int (fun _ _ => rfl))) (blkOk_by (own := [("way", 8)]) (N := N_won_by_all) (sc := defScope s_won_by_all) (by decide +kernel)) (fun _ _ _ _ _ => (pg_name (i := 8) sc_won_by_all.nd rfl (Or.inl rfl))) (fun _ _ _ _ _ => (pts_one (pt_cmpR op_in_seq (pv 8) (pv 1) rfl))) (fun _ _ _ _ _ => (pv 8))) pe_int (fun _ _ => rfl)) rfl)) pss_nil))))))))
  (pss_one (ps_ret (pe_tup (pa_cons (pv 5) (pa_cons (pv 6) pa_nil))))))))
abbrev s_parted : Stmt := top 24
theorem sc_parted : FnScope N_parted ["game", "within"] (defScope s_parted) := ⟨rfl, rfl, rfl, by decide +kernel, rfl, by decide +kernel, by decide +kernel⟩
theorem ok_parted {P : Program} {w : World} {K : PySem.W.Frag} {mg : Str → Option Value} {base : Heap} {k : Nat} {sp : Sp} (d : DefC K mg "parted" s_parted ["game", "within"]) (B : Bi mg) {k_drawn_in : Nat} {sp_drawn_in : Sp} (c_drawn_in : CalC P w K mg base k_drawn_in "drawn_in" sp_drawn_in) (hk_drawn_in : k_drawn_in ≤ k) {k_parted : Nat} {sp_parted : Sp} (c_parted : CalC P w K mg base k_parted "parted" sp_parted) (hk_parted : k_parted ≤ k) {k_won_by_all : Nat} {sp_won_by_all : Sp} (c_won_by_all : CalC P w K mg base k_won_by_all "won_by_all" sp_won_by_all) (hk_won_by_all : k_won_by_all ≤ k) (len : ∀ vs H Q E, sp vs H Q E → vs.length = 2)
    (pure : ∀ vs H Q E, sp vs H Q E → t_parted K sp_drawn_in sp_parted sp_won_by_all { nx := fun _ H' => Q .non H', rt := Q } (start N_parted vs) H) : CalC P w K mg base (k + 1) "parted" sp := by
  refine d.cal sc_parted len (fun f cdv A outer s H vs Q E hr h => ⟨t_parted K sp_drawn_in sp_parted sp_won_by_all, ?_, pure vs H Q E h⟩)
  have hu := hu_of hr
  exact (pss_cons (ps_if (pt_cmpR (op_eqD hr.units) (pv 1) (pe_lst pa_nil) (nomark _)) (pss_one (ps_ret (pe_tup (pa_cons pe_dnewK (pa_cons pe_dnewK pa_nil))))) pss_nil)
  (pss_cons (ps_set (i := 2) sc_parted.nd rfl (Or.inr rfl) (pe_callB (cr_max rfl) (by rfl) B.max (by decide +kernel) (pa_cons (pe_lc (own := [("place", 13)]) (g := (gName 13)) rfl sc_parted.nd (pi_list (pv 1)) (blkOk_by (own := [("place", 13)]) (N := N_parted) (sc := defScope s_parted) (by decide +kernel)) (fun _ _ _ _ _ => (pg_name (i := 13) sc_parted.nd rfl (Or.inl rfl))) (fun _ _ _ _ _ => pts_nil) (fun _ _ _ _ _ => (pe_ix ix_tup (pe_ix ix_list (pv 0) (pv 13) (fun _ _ => rfl)) pe_int (fun _ _ => rfl)))) pa_nil)))
  (pss_cons (ps_set (i := 3) sc_parted.nd rfl (Or.inr rfl) (pe_op op_mod (pv 2) pe_int))
  (pss_cons (ps_setLc (i := 4) (own := [("place", 13)]) (g := (gName 13)) rfl sc_parted.nd rfl rfl (sw_true rfl rfl rfl (by decide +kernel)) (pi_list (pv 1)) (blkOk_by (own := [("place", 13)]) (N := N_parted) (sc := defScope s_parted) (by decide +kernel)) (fun _ _ _ _ _ => (pg_name (i := 13) sc_parted.nd rfl (Or.inl rfl))) (fun _ _ _ _ _ => (pts_one (pt_cmpR op_eq (pe_ix ix_tup (pe_ix ix_list (pv 0) (pv 13) (fun _ _ => rfl)) pe_int (fun _ _ => rfl)) (pv 2) (nomark _)))) (fun _ _ _ _ _ => (pv 13)))
  (pss_cons (ps_asg (pe_cc c_drawn_in hr hk_drawn_in (by rfl) (pa_cons (pv 0) (pa_cons (pv 1) (pa_cons (pv 3) (pa_cons (pv 4) pa_nil))))) (pg_tup rfl (pgs_cons (pg_name (i := 5) sc_parted.nd rfl (Or.inr rfl)) (pgs_cons (pg_name (i := 6) sc_parted.nd rfl (Or.inl rfl)) pgs_nil))))
  (pss_cons (ps_asg (pe_cc c_parted hr hk_parted (by rfl) (pa_cons (pv 0) (pa_cons (pe_lc (own := [("place", 13)]) (g := (gName 13)) rfl sc_parted.nd (pi_list (pv 1)) (blkOk_by (own := [("place", 13)]) (N := N_parted) (sc := defScope s_parted) (by decide +kernel)) (fun _ _ _ _ _ => (pg_name (i := 13) sc_parted.nd rfl (Or.inl rfl))) (fun _ _ _ _ _ => (pts_one (pt_cmp (pc_dnotin hu (pv 13) (pv 5))))) (fun _ _ _ _ _ => (pv 13))) pa_nil))) (pg_tup rfl (pgs_cons (pg_name (i := 7) sc_parted.nd rfl (Or.inr rfl)) (pgs_cons (pg_name (i := 8) sc_parted.nd rfl (Or.inl rfl)) pgs_nil))))
  (pss_cons (ps_setLc (i := 9) (own := [("place", 13)]) (g := (gName 13)) rfl sc_parted.nd rfl rfl (sw_true rfl rfl rfl (by decide +kernel)) (pi_list (pv 1)) (blkOk_by (own := [("place", 13)]) (N := N_parted) (sc := defScope s_parted) (by decide +kernel)) (fun _ _ _ _ _ => (pg_name (i := 13) sc_parted.nd rfl (Or.inl rfl))) (fun _ _ _ _ _ => (pts_one (PW.pt (pw_and (pt_cmp (pc_dnotin hu (pv 13) (pv 5))) (pw_and1 (pt_cmpR op_ne (pe_dget hu (pv 7) (pv 13) (fun _ _ => rfl)) (pv 3) (nomark _))))))) (fun _ _ _ _ _ => (pv 13)))
  (pss_cons (ps_if (pt_cmpR (op_eqD hr.units) (pv 9) (pe_lst pa_nil) (nomark _)) (pss_one (ps_ret (pe_cc c_won_by_all hr hk_won_by_all (by rfl) (pa_cons (pv 0) (pa_cons (pv 1) (pa_cons (pv 3) (pa_cons (pv 8) (pa_cons (pv 6) pa_nil)))))))) pss_nil)
  (pss_cons (ps_set (i := 10) sc_parted.nd rfl (Or.inl rfl) (pe_op op_sub pe_int (pv 3)))
  (pss_cons (ps_asg (pe_cc c_drawn_in hr hk_drawn_in (by rfl) (pa_cons (pv 0) (pa_cons (pv 1) (pa_cons (pv 10) (pa_cons (pv 9) pa_nil))))) (pg_tup rfl (pgs_cons (pg_name (i := 5) sc_parted.nd rfl (Or.inr rfl)) (pgs_cons (pg_name (i := 6) sc_parted.nd rfl (Or.inl rfl)) pgs_nil))))
  (pss_cons (ps_asg (pe_cc c_parted hr hk_parted (by rfl) (pa_cons (pv 0) (pa_cons (pe_lc (own := [("place", 13)]) (g := (gName 13)) rfl sc_parted.nd (pi_list (pv 1)) (blkOk_by (own := [("place", 13)]) (N := N_parted) (sc := defScope s_parted) (by decide +kernel)) (fun _ _ _ _ _ => (pg_name (i := 13) sc_parted.nd rfl (Or.inl rfl))) (fun _ _ _ _ _ => (pts_one (pt_cmp (pc_dnotin hu (pv 13) (pv 5))))) (fun _ _ _ _ _ => (pv 13))) pa_nil))) (pg_tup rfl (pgs_cons (pg_name (i := 11) sc_parted.nd rfl (Or.inl rfl)) (pgs_cons (pg_name (i := 12) sc_parted.nd rfl (Or.inl rfl)) pgs_nil))))
  (pss_cons (ps_lock (ps_for PassesOwn.never rfl (pi_keys (pv 5)) (pg_name (i := 13) sc_parted.nd rfl (Or.inl rfl)) (pss_cons (ps_dput hu (pv 11) (pv 13) (pv 10) rfl)
  (pss_one (ps_if (pt_cmp (pc_din hu (pv 13) (pv 6))) (pss_one (ps_dput hu (pv 12) (pv 13) (pe_dget hu (pv 6) (pv 13) (fun _ _ => rfl)) rfl)) (pss_one (ps_if (pt_cmpR op_eq (pe_ix ix_tup (pe_ix ix_list (pv 0) (pv 13) (fun _ _ => rfl)) pe_int (fun _ _ => rfl)) (pv 10) (nomark _)) (pss_one (ps_dput hu (pv 12) (pv 13) (pe_dget hu (pv 8) (pv 13) (fun _ _ => rfl)) rfl)) pss_nil)))))))
  (pss_one (ps_ret (pe_tup (pa_cons (pv 11) (pa_cons (pv 12) pa_nil)))))))))))))))))
abbrev s_won : Stmt := top 26
theorem sc_won : FnScope N_won ["game"] (defScope s_won) := ⟨rfl, rfl, rfl, by decide +kernel, rfl, by decide +kernel, by decide +kernel⟩
theorem ok_won {P : Program} {w : World} {K : PySem.W.Frag} {mg : Str → Option Value} {base : Heap} {k : Nat} {sp : Sp} (d : DefC K mg "won" s_won ["game"]) (B : Bi mg) {k_need_game : Nat} {sp_need_game : Sp} (c_need_game : CalC P w K mg base k_need_game "need_game" sp_need_game) (hk_need_game : k_need_game ≤ k) {k_parted : Nat} {sp_parted : Sp} (c_parted : CalC P w K mg base k_parted "parted" sp_parted) (hk_parted : k_parted ≤ k) (len : ∀ vs H Q E, sp vs H Q E → vs.length = 1)
    (pure : ∀ vs H Q E, sp vs H Q E → t_won K sp_need_game sp_parted { nx := fun _ H' => Q .non H', rt := Q } (start N_won vs) H) : CalC P w K mg base (k + 1) "won" sp := by
  refine d.cal sc_won len (fun f cdv A outer s H vs Q E hr h => ⟨t_won K sp_need_game sp_parted, ?_, pure vs H Q E h⟩)
  have hu := hu_of hr
  exact (pss_cons (ps_expr (pe_cc c_need_game hr hk_need_game (by rfl) (pa_cons (pv 0) pa_nil)))
  (pss_cons (ps_set (i := 1) sc_won.nd rfl (Or.inr rfl) (pe_ix ix_tup (pe_cc c_parted hr hk_parted (by rfl) (pa_cons (pv 0) (pa_cons (pe_listRg rfl (by rfl) B.list_ (prg_1 (by rfl) B.range (pe_callB call_len_seq (by rfl) B.len PySem.boot_len (pa_cons (pv 0) pa_nil)))) pa_nil))) pe_int (fun _ _ => rfl)))
  (pss_one (ps_ret (pe_lc (own := [("place", 2)]) (g := (gName 2)) rfl sc_won.nd (pi_range1 (by rfl) B.range (pa_cons (pe_callB call_len_seq (by rfl) B.len PySem.boot_len (pa_cons (pv 0) pa_nil)) pa_nil)) (blkOk_by (own := [("place", 2)]) (N := N_won) (sc := defScope s_won) (by decide +kernel)) (fun _ _ _ _ _ => (pg_name (i := 2) sc_won.nd rfl (Or.inl rfl))) (fun _ _ _ _ _ => pts_nil) (fun _ _ _ _ _ => (pe_dget hu (pv 1) (pv 2) (fun _ _ => rfl))))))))
abbrev s_law_mixed : Stmt := top 28
theorem sc_law_mixed : FnScope N_law_mixed ["_law_number", "_law_k"] (defScope s_law_mixed) := ⟨rfl, rfl, rfl, by decide +kernel, rfl, by decide +kernel, by decide +kernel⟩
theorem ok_law_mixed {P : Program} {w : World} {K : PySem.W.Frag} {mg : Str → Option Value} {base : Heap} {k : Nat} {sp : Sp} (d : DefC K mg "_law_mixed" s_law_mixed ["_law_number", "_law_k"]) (B : Bi mg) (len : ∀ vs H Q E, sp vs H Q E → vs.length = 2)
    (pure : ∀ vs H Q E, sp vs H Q E → t_law_mixed K { nx := fun _ H' => Q .non H', rt := Q } (start N_law_mixed vs) H) : CalC P w K mg base (k + 1) "_law_mixed" sp := by
  refine d.cal sc_law_mixed len (fun f cdv A outer s H vs Q E hr h => ⟨t_law_mixed K, ?_, pure vs H Q E h⟩)
  have hu := hu_of hr
  exact (pss_cons (ps_set (i := 0) sc_law_mixed.nd rfl (Or.inl rfl) (pe_op op_mod (pe_op op_mul (pe_op op_add (pe_op op_add (pe_op op_mod (pv 0) pe_int) (pe_op op_mul (pe_op op_mul pe_int (pv 1)) (pv 1))) (pe_op op_mul pe_int (pv 1))) pe_int) pe_int))
  (pss_one (ps_ret (pe_op op_mod (pe_op op_mul (pv 0) (pe_op op_add pe_int (pe_op op_mul pe_int (pv 1)))) pe_int))))
abbrev s_law_game : Stmt := top 29
theorem sc_law_game : FnScope N_law_game ["_law_script", "_law_most"] (defScope s_law_game) := ⟨rfl, rfl, rfl, by decide +kernel, rfl, by decide +kernel, by decide +kernel⟩
theorem ok_law_game {P : Program} {w : World} {K : PySem.W.Frag} {mg : Str → Option Value} {base : Heap} {k : Nat} {sp : Sp} (d : DefC K mg "_law_game" s_law_game ["_law_script", "_law_most"]) (B : Bi mg) {k_law_mixed : Nat} {sp_law_mixed : Sp} (c_law_mixed : CalC P w K mg base k_law_mixed "_law_mixed" sp_law_mixed) (hk_law_mixed : k_law_mixed ≤ k) (len : ∀ vs H Q E, sp vs H Q E → vs.length = 2)
    (pure : ∀ vs H Q E, sp vs H Q E → t_law_game K sp_law_mixed { nx := fun _ H' => Q .non H', rt := Q } (start N_law_game vs) H) : CalC P w K mg base (k + 1) "_law_game" sp := by
  refine d.cal sc_law_game len (fun f cdv A outer s H vs Q E hr h => ⟨t_law_game K sp_law_mixed, ?_, pure vs H Q E h⟩)
  have hu := hu_of hr
  exact (pss_cons (ps_set (i := 2) sc_law_game.nd rfl (Or.inl rfl) (pe_cc c_law_mixed hr hk_law_mixed (by rfl) (pa_cons (pe_ifExp (pt_cmpR (op_neD hr.units) (pv 0) (pe_lst pa_nil) (nomark _)) (pe_ix ix_list (pv 0) pe_int (fun _ _ => rfl)) pe_int) (pa_cons pe_int pa_nil))))
  (pss_cons (ps_set (i := 3) sc_law_game.nd rfl (Or.inl rfl) (pe_op op_add (pe_op op_mod (pv 2) (pv 1)) pe_int))
  (pss_cons (ps_set (i := 4) sc_law_game.nd rfl (Or.inl rfl) (pe_ix ix_list (pe_lst (pa_cons pe_int (pa_cons pe_int (pa_cons pe_int (pa_cons (pe_op op_pow pe_int pe_int) (pa_cons (pv 3) pa_nil)))))) (pe_op op_mod (pe_op op_fdiv (pv 2) pe_int) pe_int) (fun _ _ => rfl)))
  (pss_cons (ps_set (i := 5) sc_law_game.nd rfl (Or.inl rfl) (pe_lst pa_nil))
  (pss_cons (ps_for PassesOwn.never rfl (pi_range1 (by rfl) B.range (pa_cons (pv 3) pa_nil)) (pg_name (i := 6) sc_law_game.nd rfl (Or.inl rfl)) (pss_cons (ps_set (i := 7) sc_law_game.nd rfl (Or.inl rfl) (pe_cc c_law_mixed hr hk_law_mixed (by rfl) (pa_cons (pv 2) (pa_cons (pe_op op_add pe_int (pv 6)) pa_nil))))
  (pss_one (ps_expr (pe_bm PySem.F.plainAttrs_list PySem.F.slot_list_append PySem.F.type_list_append mt_append (pv 5) (pa_cons (pe_lst (pa_cons (pe_op op_mod (pv 7) pe_int) (pa_cons (pe_op op_mod (pe_op op_fdiv (pv 7) pe_int) (pv 4)) (pa_cons (pe_lst (pa_cons (pe_op op_mod (pe_op op_fdiv (pv 7) pe_int) (pv 3)) pa_nil)) pa_nil)))) pa_nil))))))
  (pss_cons (ps_for PassesOwn.never rfl (pi_list (pv 0)) (pg_name (i := 8) sc_law_game.nd rfl (Or.inl rfl)) (pss_cons (ps_set (i := 7) sc_law_game.nd rfl (Or.inl rfl) (pe_cc c_law_mixed hr hk_law_mixed (by rfl) (pa_cons (pv 8) (pa_cons pe_int pa_nil))))
  (pss_cons (ps_set (i := 9) sc_law_game.nd rfl (Or.inl rfl) (pe_ix ix_list (pv 5) (pe_op op_mod (pv 7) (pv 3)) (fun _ _ => rfl)))
  (pss_cons (ps_set (i := 10) sc_law_game.nd rfl (Or.inl rfl) (pe_op op_mod (pe_op op_fdiv (pv 7) (pv 3)) (pv 3)))
  (pss_one (ps_if (pt_cmpR op_eq (pe_op op_mod (pe_op op_fdiv (pv 7) pe_int) pe_int) pe_int (nomark _)) (pss_one (ps_asg (pe_op op_sub pe_int (pe_ix ix_list (pv 9) pe_int (fun _ _ => rfl))) (pg_sub (pv 9) pe_int set_list))) (pss_one (ps_if (pt_cmpR op_eq (pe_op op_mod (pe_op op_fdiv (pv 7) pe_int) pe_int) pe_int (nomark _)) (pss_one (ps_asg (pe_op op_mod (pe_cc c_law_mixed hr hk_law_mixed (by rfl) (pa_cons (pv 7) (pa_cons pe_int pa_nil))) (pv 4)) (pg_sub (pv 9) pe_int set_list))) (pss_one (ps_if (pt_cmpR op_notIn_seq (pv 10) (pe_ix ix_list (pv 9) pe_int (fun _ _ => rfl)) rfl) (pss_one (ps_expr (pe_bm PySem.F.plainAttrs_list PySem.F.slot_list_append PySem.F.type_list_append mt_append (pe_ix ix_list (pv 9) pe_int (fun _ _ => rfl)) (pa_cons (pv 10) pa_nil)))) (pss_one (ps_if (pt_cmpR op_gt (pe_callB call_len_seq (by rfl) B.len PySem.boot_len (pa_cons (pe_ix ix_list (pv 9) pe_int (fun _ _ => rfl)) pa_nil)) pe_int (nomark _)) (pss_one (ps_expr (pe_bm PySem.F.plainAttrs_list PySem.F.slot_list_remove PySem.F.type_list_remove mt_remove (pe_ix ix_list (pv 9) pe_int (fun _ _ => rfl)) (pa_cons (pv 10) pa_nil)))) pss_nil))))))))))))
  (pss_one (ps_ret (pe_lc (own := [("_law_row", 9)]) (g := (gName 9)) rfl sc_law_game.nd (pi_list (pv 5)) (blkOk_by (own := [("_law_row", 9)]) (N := N_law_game) (sc := defScope s_law_game) (by decide +kernel)) (fun _ _ _ _ _ => (pg_name (i := 9) sc_law_game.nd rfl (Or.inl rfl))) (fun _ _ _ _ _ => pts_nil) (fun _ _ _ _ _ => (pe_tup (pa_cons (pe_ix ix_list (pv 9) pe_int (fun _ _ => rfl)) (pa_cons (pe_ix ix_list (pv 9) pe_int (fun _ _ => rfl)) (pa_cons (pe_ix ix_list (pv 9) pe_int (fun _ _ => rfl)) pa_nil))))))))))))))
abbrev s_law_copied : Stmt := top 30
theorem sc_law_copied : FnScope N_law_copied ["_law_game_here"] (defScope s_law_copied) := ⟨rfl, rfl, rfl, by decide +kernel, rfl, by decide +kernel, by decide +kernel⟩
theorem ok_law_copied {P : Program} {w : World} {K : PySem.W.Frag} {mg : Str → Option Value} {base : Heap} {k : Nat} {sp : Sp} (d : DefC K mg "_law_copied" s_law_copied ["_law_game_here"]) (B : Bi mg) (len : ∀ vs H Q E, sp vs H Q E → vs.length = 1)
    (pure : ∀ vs H Q E, sp vs H Q E → t_law_copied K { nx := fun _ H' => Q .non H', rt := Q } (start N_law_copied vs) H) : CalC P w K mg base (k + 1) "_law_copied" sp := by
  refine d.cal sc_law_copied len (fun f cdv A outer s H vs Q E hr h => ⟨t_law_copied K, ?_, pure vs H Q E h⟩)
  have hu := hu_of hr
  exact (pss_one (ps_ret (pe_lc (own := [("_law_player", 1), ("_law_number", 2), ("_law_ways", 3)]) (g := (gTup K 3 (gCons (gName 1) (gCons (gName 2) (gCons (gName 3) gNil))))) rfl sc_law_copied.nd (pi_list (pv 0)) (blkOk_by (own := [("_law_player", 1), ("_law_number", 2), ("_law_ways", 3)]) (N := N_law_copied) (sc := defScope s_law_copied) (by decide +kernel)) (fun _ _ _ _ _ => (pg_tup rfl (pgs_cons (pg_name (i := 1) sc_law_copied.nd rfl (Or.inl rfl)) (pgs_cons (pg_name (i := 2) sc_law_copied.nd rfl (Or.inl rfl)) (pgs_cons (pg_name (i := 3) sc_law_copied.nd rfl (Or.inl rfl)) pgs_nil))))) (fun _ _ _ _ _ => pts_nil) (fun _ _ _ _ _ => (pe_tup (pa_cons (pv 1) (pa_cons (pv 2) (pa_cons (pe_callTy call_list_of (by rfl) B.list_ (by decide +kernel) (pa_cons (pv 3) pa_nil)) pa_nil))))))))
abbrev s_law_word : Stmt := top 31
theorem sc_law_word : FnScope N_law_word ["_law_e"] (defScope s_law_word) := ⟨rfl, rfl, rfl, by decide +kernel, rfl, by decide +kernel, by decide +kernel⟩
theorem ok_law_word {P : Program} {w : World} {K : PySem.W.Frag} {mg : Str → Option Value} {base : Heap} {k : Nat} {sp : Sp} (d : DefC K mg "_law_word" s_law_word ["_law_e"]) (B : Bi mg) {C_BadPlace : Addr} (T_BadPlace : ExcT K mg "BadPlace" C_BadPlace) {C_BadPlayer : Addr} (T_BadPlayer : ExcT K mg "BadPlayer" C_BadPlayer) {C_BadGame : Addr} (T_BadGame : ExcT K mg "BadGame" C_BadGame) {C_TooMany : Addr} (T_TooMany : ExcT K mg "TooMany" C_TooMany) {C_BadSteps : Addr} (T_BadSteps : ExcT K mg "BadSteps" C_BadSteps) (BV : mg "ValueError" = none) (len : ∀ vs H Q E, sp vs H Q E → vs.length = 1)
    (pure : ∀ vs H Q E, sp vs H Q E → t_law_word K C_BadPlace C_BadPlayer C_BadGame C_TooMany C_BadSteps { nx := fun _ H' => Q .non H', rt := Q } (start N_law_word vs) H) : CalC P w K mg base (k + 1) "_law_word" sp := by
  refine d.cal sc_law_word len (fun f cdv A outer s H vs Q E hr h => ⟨t_law_word K C_BadPlace C_BadPlayer C_BadGame C_TooMany C_BadSteps, ?_, pure vs H Q E h⟩)
  have hu := hu_of hr
  exact (pss_cons (ps_if (pt_cmpR op_isN (pv 0) pe_non (nomark _)) (pss_one (ps_ret pe_str)) pss_nil)
  (pss_cons (ps_set (i := 1) sc_law_word.nd rfl (Or.inl rfl) (pe_lst (pa_cons (pe_callB call_isK (by rfl) B.isinstance (by decide +kernel) (pa_cons (pv 0) (pa_cons (pe_glob rfl T_BadGame.gC rfl) pa_nil))) (pa_cons (pe_callB call_isK (by rfl) B.isinstance (by decide +kernel) (pa_cons (pv 0) (pa_cons (pe_glob rfl T_BadPlayer.gC rfl) pa_nil))) (pa_cons (pe_callB call_isK (by rfl) B.isinstance (by decide +kernel) (pa_cons (pv 0) (pa_cons (pe_glob rfl T_BadPlace.gC rfl) pa_nil))) pa_nil)))))
  (pss_cons (ps_set (i := 1) sc_law_word.nd rfl (Or.inl rfl) (pe_op op_cat (pv 1) (pe_lst (pa_cons (pe_callB call_isK (by rfl) B.isinstance (by decide +kernel) (pa_cons (pv 0) (pa_cons (pe_glob rfl T_BadSteps.gC rfl) pa_nil))) (pa_cons (pe_callB call_isK (by rfl) B.isinstance (by decide +kernel) (pa_cons (pv 0) (pa_cons (pe_glob rfl T_TooMany.gC rfl) pa_nil))) pa_nil)))))
  (pss_cons (ps_if (PW.pt (pw_or (pt_cmpR op_ne (pe_bm PySem.F.plainAttrs_list PySem.F.slot_list_count PySem.F.type_list_count mt_lcountB (pv 1) (pa_cons pe_bl pa_nil)) pe_int (nomark _)) (pw_or1 (pt_not (pt_val (pe_callB call_isK (by rfl) B.isinstance (by decide +kernel) (pa_cons (pv 0) (pa_cons (pe_bltn (v := .ty "ValueError") (by rfl) BV (by decide +kernel) rfl) pa_nil)))))))) (pss_one (ps_ret pe_str)) pss_nil)
  (pss_one (ps_ret (pe_ix ix_list (pe_lst (pa_cons pe_str (pa_cons pe_str (pa_cons pe_str (pa_cons pe_str (pa_cons pe_str pa_nil)))))) (pe_bm PySem.F.plainAttrs_list PySem.F.slot_list_index PySem.F.type_list_index mt_index (pv 1) (pa_cons pe_bl pa_nil)) (fun _ _ => rfl))))))))
abbrev s_law_wanted : Stmt := top 32
theorem sc_law_wanted : FnScope N_law_wanted ["_law_counts", "_law_number", "_law_known"] (defScope s_law_wanted) := ⟨rfl, rfl, rfl, by decide +kernel, rfl, by decide +kernel, by decide +kernel⟩
theorem ok_law_wanted {P : Program} {w : World} {K : PySem.W.Frag} {mg : Str → Option Value} {base : Heap} {k : Nat} {sp : Sp} (d : DefC K mg "_law_wanted" s_law_wanted ["_law_counts", "_law_number", "_law_known"]) (B : Bi mg) (len : ∀ vs H Q E, sp vs H Q E → vs.length = 3)
    (pure : ∀ vs H Q E, sp vs H Q E → t_law_wanted K { nx := fun _ H' => Q .non H', rt := Q } (start N_law_wanted vs) H) : CalC P w K mg base (k + 1) "_law_wanted" sp := by
  refine d.cal sc_law_wanted len (fun f cdv A outer s H vs Q E hr h => ⟨t_law_wanted K, ?_, pure vs H Q E h⟩)
  have hu := hu_of hr
  exact (pss_cons (ps_if (pt_cmpR op_isN (pv 2) pe_non (nomark _)) (pss_one (ps_ret pe_non)) pss_nil)
  (pss_cons (ps_set (i := 3) sc_law_wanted.nd rfl (Or.inl rfl) (pe_lst pa_nil))
  (pss_cons (ps_for PassesOwn.never rfl (pi_range1 (by rfl) B.range (pa_cons (pe_callB call_len_seq (by rfl) B.len PySem.boot_len (pa_cons (pv 0) pa_nil)) pa_nil)) (pg_name (i := 4) sc_law_wanted.nd rfl (Or.inl rfl)) (pss_one (ps_expr (pe_bm PySem.F.plainAttrs_list PySem.F.slot_list_append PySem.F.type_list_append mt_append (pv 3) (pa_cons (pe_op op_mul (pe_ix ix_tup (pv 2) (pv 4) (fun _ _ => rfl)) (pe_callTy call_int1 (by rfl) B.int_ (by decide +kernel) (pa_cons (pe_cmpR op_ge (pe_ix ix_tup (pe_ix ix_list (pv 0) (pv 4) (fun _ _ => rfl)) pe_int (fun _ _ => rfl)) (pv 1) (nomark _)) pa_nil))) pa_nil)))))
  (pss_cons (ps_if (pt_cmpR op_eq (pe_op op_mod (pv 1) pe_int) pe_int (nomark _)) (pss_one (ps_ret (pe_callTy call_tuple_of (by rfl) B.tuple_ (by decide +kernel) (pa_cons (pv 3) pa_nil)))) pss_nil)
  (pss_cons (ps_for PassesOwn.never rfl (pi_range3 (by rfl) B.range (pa_cons (pe_op op_sub (pe_callB call_len_seq (by rfl) B.len PySem.boot_len (pa_cons (pv 0) pa_nil)) pe_int) (pa_cons (pe_un un_neg pe_int) (pa_cons (pe_un un_neg pe_int) pa_nil)))) (pg_name (i := 4) sc_law_wanted.nd rfl (Or.inl rfl)) (pss_one (ps_if (pt_cmpR op_ge (pe_ix ix_tup (pe_ix ix_list (pv 0) (pv 4) (fun _ _ => rfl)) pe_int (fun _ _ => rfl)) (pv 1) (nomark _)) (pss_cons (ps_if (pt_cmpR op_lt (pe_ix ix_list (pv 3) (pv 4) (fun _ _ => rfl)) (pe_ix ix_tup (pe_ix ix_list (pv 0) (pv 4) (fun _ _ => rfl)) pe_int (fun _ _ => rfl)) (nomark _)) (pss_one (ps_ret (pe_callTy call_tuple_of (by rfl) B.tuple_ (by decide +kernel) (pa_cons (pe_op op_cat (pe_op op_cat (pe_slice sl_list (pv 3) po_none (po_some (pv 4))) (pe_lst (pa_cons (pe_op op_add (pe_ix ix_list (pv 3) (pv 4) (fun _ _ => rfl)) pe_int) pa_nil))) (pe_slice sl_list (pv 3) (po_some (pe_op op_add (pv 4) pe_int)) po_none)) pa_nil)))) pss_nil)
  (pss_one (ps_asg pe_int (pg_sub (pv 3) (pv 4) set_list)))) pss_nil)))
  (pss_one (ps_ret pe_non)))))))
abbrev s_law_rank : Stmt := top 33
theorem sc_law_rank : FnScope N_law_rank ["_law_measure"] (defScope s_law_rank) := ⟨rfl, rfl, rfl, by decide +kernel, rfl, by decide +kernel, by decide +kernel⟩
theorem ok_law_rank {P : Program} {w : World} {K : PySem.W.Frag} {mg : Str → Option Value} {base : Heap} {k : Nat} {sp : Sp} (d : DefC K mg "_law_rank" s_law_rank ["_law_measure"]) (B : Bi mg) (len : ∀ vs H Q E, sp vs H Q E → vs.length = 1)
    (pure : ∀ vs H Q E, sp vs H Q E → t_law_rank K { nx := fun _ H' => Q .non H', rt := Q } (start N_law_rank vs) H) : CalC P w K mg base (k + 1) "_law_rank" sp := by
  refine d.cal sc_law_rank len (fun f cdv A outer s H vs Q E hr h => ⟨t_law_rank K, ?_, pure vs H Q E h⟩)
  have hu := hu_of hr
  exact (pss_cons (ps_if (pt_cmpR op_isN (pv 0) pe_non (nomark _)) (pss_one (ps_ret (pe_tup (pa_cons pe_int (pa_cons (pe_tup pa_nil) pa_nil))))) pss_nil)
  (pss_one (ps_ret (pe_tup (pa_cons pe_int (pa_cons (pv 0) pa_nil))))))
abbrev s_law_measures : Stmt := top 34
theorem sc_law_measures : FnScope N_law_measures ["_law_game_here"] (defScope s_law_measures) := ⟨rfl, rfl, rfl, by decide +kernel, rfl, by decide +kernel, by decide +kernel⟩
theorem ok_law_measures {P : Program} {w : World} {K : PySem.W.Frag} {mg : Str → Option Value} {base : Heap} {k : Nat} {sp : Sp} (d : DefC K mg "_law_measures" s_law_measures ["_law_game_here"]) (B : Bi mg) {k_law_wanted : Nat} {sp_law_wanted : Sp} (c_law_wanted : CalC P w K mg base k_law_wanted "_law_wanted" sp_law_wanted) (hk_law_wanted : k_law_wanted ≤ k) {k_law_rank : Nat} {sp_law_rank : Sp} (c_law_rank : CalC P w K mg base k_law_rank "_law_rank" sp_law_rank) (hk_law_rank : k_law_rank ≤ k) (len : ∀ vs H Q E, sp vs H Q E → vs.length = 1)
    (pure : ∀ vs H Q E, sp vs H Q E → t_law_measures K sp_law_wanted sp_law_rank { nx := fun _ H' => Q .non H', rt := Q } (start N_law_measures vs) H) : CalC P w K mg base (k + 1) "_law_measures" sp := by
  refine d.cal sc_law_measures len (fun f cdv A outer s H vs Q E hr h => ⟨t_law_measures K sp_law_wanted sp_law_rank, ?_, pure vs H Q E h⟩)
  have hu := hu_of hr
  exact (pss_cons (ps_set (i := 1) sc_law_measures.nd rfl (Or.inr rfl) (pe_lst pa_nil))
  (pss_cons (ps_for PassesOwn.never rfl (pi_reversed (by rfl) B.reversed (pa_cons (pe_sortedSet (by rfl) B.sorted (by rfl) B.set_ (pe_lc (own := [("_law_row", 9)]) (g := (gName 9)) rfl sc_law_measures.nd (pi_list (pv 0)) (blkOk_by (own := [("_law_row", 9)]) (N := N_law_measures) (sc := defScope s_law_measures) (by decide +kernel)) (fun _ _ _ _ _ => (pg_name (i := 9) sc_law_measures.nd rfl (Or.inl rfl))) (fun _ _ _ _ _ => pts_nil) (fun _ _ _ _ _ => (pe_ix ix_tup (pv 9) pe_int (fun _ _ => rfl))))) pa_nil)) (pg_name (i := 2) sc_law_measures.nd rfl (Or.inr rfl)) (pss_one (ps_if (pt_cmpR op_eq (pe_op op_mod (pv 2) pe_int) pe_int (nomark _)) (pss_one (ps_expr (pe_bm PySem.F.plainAttrs_list PySem.F.slot_list_append PySem.F.type_list_append mt_append (pv 1) (pa_cons (pe_tup (pa_cons (pv 2) (pa_cons (pe_callB call_len_seq (by rfl) B.len PySem.boot_len (pa_cons (pe_lc (own := [("_law_row", 9)]) (g := (gName 9)) rfl sc_law_measures.nd (pi_list (pv 0)) (blkOk_by (own := [("_law_row", 9)]) (N := N_law_measures) (sc := defScope s_law_measures) (by decide +kernel)) (fun _ _ _ _ _ => (pg_name (i := 9) sc_law_measures.nd rfl (Or.inl rfl))) (fun _ _ _ _ _ => (pts_one (pt_cmpR op_eq (pe_ix ix_tup (pv 9) pe_int (fun _ _ => rfl)) (pv 2) (nomark _)))) (fun _ _ _ _ _ => (pv 9))) pa_nil)) pa_nil))) pa_nil)))) pss_nil)))
  (pss_cons (ps_set (i := 3) sc_law_measures.nd rfl (Or.inr rfl) (pe_lc (own := [("_law_row", 9)]) (g := (gName 9)) rfl sc_law_measures.nd (pi_list (pv 0)) (blkOk_by (own := [("_law_row", 9)]) (N := N_law_measures) (sc := defScope s_law_measures) (by decide +kernel)) (fun _ _ _ _ _ => (pg_name (i := 9) sc_law_measures.nd rfl (Or.inl rfl))) (fun _ _ _ _ _ => pts_nil) (fun _ _ _ _ _ => (pe_callTy call_tuple_of (by rfl) B.tuple_ (by decide +kernel) (pa_cons (pe_lc (own := [("_law_pair", 10)]) (g := (gName 10)) rfl sc_law_measures.nd (pi_list (pv 1)) (blkOk_by (own := [("_law_pair", 10)]) (N := N_law_measures) (sc := (⟨.function, [(Str.ofString ".0", NameKind.local), (Str.ofString "_law_row", NameKind.local), (Str.ofString "tuple", NameKind.globalImplicit), (Str.ofString "_law_counts", NameKind.cell)], false, false, []⟩ : Scope)) (by decide +kernel)) (fun _ _ _ _ _ => (pg_name (i := 10) sc_law_measures.nd rfl (Or.inl rfl))) (fun _ _ _ _ _ => pts_nil) (fun _ _ _ _ _ => pe_int)) pa_nil)))))
  (pss_cons (ps_set (i := 4) sc_law_measures.nd rfl (Or.inl rfl) (pe_op op_sub (pe_callB call_len_seq (by rfl) B.len PySem.boot_len (pa_cons (pv 0) pa_nil)) pe_int))
  (pss_cons (ps_while PassesOwn.never (pt_cmpR op_ge (pv 4) pe_int (nomark _)) (pss_cons (ps_asg (pe_ix ix_list (pv 0) (pv 4) (fun _ _ => rfl)) (pg_tup rfl (pgs_cons (pg_name (i := 5) sc_law_measures.nd rfl (Or.inl rfl)) (pgs_cons (pg_name (i := 2) sc_law_measures.nd rfl (Or.inr rfl)) (pgs_cons (pg_name (i := 6) sc_law_measures.nd rfl (Or.inl rfl)) pgs_nil)))))
  (pss_cons (ps_set (i := 7) sc_law_measures.nd rfl (Or.inl rfl) (pe_callB (cr_sortedD hr.units) (by rfl) B.sorted (by decide +kernel) (pa_cons (pe_lc (own := [("_law_way", 11)]) (g := (gName 11)) rfl sc_law_measures.nd (pi_list (pv 6)) (blkOk_by (own := [("_law_way", 11)]) (N := N_law_measures) (sc := defScope s_law_measures) (by decide +kernel)) (fun _ _ _ _ _ => (pg_name (i := 11) sc_law_measures.nd rfl (Or.inl rfl))) (fun _ _ _ _ _ => pts_nil) (fun _ _ _ _ _ => (pe_cc c_law_rank hr hk_law_rank (by rfl) (pa_cons (pe_cc c_law_wanted hr hk_law_wanted (by rfl) (pa_cons (pv 1) (pa_cons (pv 2) (pa_cons (pe_ix ix_list (pv 3) (pv 11) (fun _ _ => rfl)) pa_nil)))) pa_nil)))) pa_nil)))
  (pss_cons (ps_set (i := 8) sc_law_measures.nd rfl (Or.inl rfl) (pe_ix ix_list (pe_lst (pa_cons (pe_ix ix_list (pv 7) pe_int (fun _ _ => rfl)) (pa_cons (pe_ix ix_list (pv 7) (pe_un un_neg pe_int) (fun _ _ => rfl)) pa_nil))) (pv 5) (fun _ _ => rfl)))
  (pss_cons (ps_if (pt_cmpR (op_gtD hr.units) (pv 8) (pe_cc c_law_rank hr hk_law_rank (by rfl) (pa_cons (pe_ix ix_list (pv 3) (pv 4) (fun _ _ => rfl)) pa_nil)) (nomark _)) (pss_cons (ps_asg (pe_ix ix_list (pe_lst (pa_cons (pe_ix ix_tup (pv 8) pe_int (fun _ _ => rfl)) (pa_cons pe_non pa_nil))) (pe_ix ix_tup (pv 8) pe_int (fun _ _ => rfl)) (fun _ _ => rfl)) (pg_sub (pv 3) (pv 4) set_list))
  (pss_one (ps_set (i := 4) sc_law_measures.nd rfl (Or.inl rfl) (pe_callB call_len_seq (by rfl) B.len PySem.boot_len (pa_cons (pv 0) pa_nil))))) pss_nil)
  (pss_one (ps_set (i := 4) sc_law_measures.nd rfl (Or.inl rfl) (pe_op op_sub (pv 4) pe_int))))))))
  (pss_one (ps_ret (pv 3))))))))
abbrev s_law_refused : Stmt := top 35
theorem sc_law_refused : FnScope N_law_refused ["_law_game_here"] (defScope s_law_refused) := ⟨rfl, rfl, rfl, by decide +kernel, rfl, by decide +kernel, by decide +kernel⟩
theorem ok_law_refused {P : Program} {w : World} {K : PySem.W.Frag} {mg : Str → Option Value} {base : Heap} {k : Nat} {sp : Sp} (d : DefC K mg "_law_refused" s_law_refused ["_law_game_here"]) (B : Bi mg) {k_measures : Nat} {sp_measures : Sp} (c_measures : CalX P w K mg base k_measures "measures" sp_measures) (hk_measures : k_measures ≤ k) {k_law_word : Nat} {sp_law_word : Sp} (c_law_word : CalC P w K mg base k_law_word "_law_word" sp_law_word) (hk_law_word : k_law_word ≤ k) {C_GongError : Addr} (T_GongError : ExcT K mg "GongError" C_GongError) (len : ∀ vs H Q E, sp vs H Q E → vs.length = 1)
    (pure : ∀ vs H Q E, sp vs H Q E → t_law_refused K sp_measures sp_law_word C_GongError { nx := fun _ H' => Q .non H', rt := Q } (start N_law_refused vs) H) : CalC P w K mg base (k + 1) "_law_refused" sp := by
  refine d.cal sc_law_refused len (fun f cdv A outer s H vs Q E hr h => ⟨t_law_refused K sp_measures sp_law_word C_GongError, ?_, pure vs H Q E h⟩)
  have hu := hu_of hr
  exact (pss_cons (ps_set (i := 1) sc_law_refused.nd rfl (Or.inl rfl) pe_non)
  (pss_cons (ps_try_keep (i := 2) rfl rfl rfl sc_law_refused.nd rfl rfl ⟨by rfl, by decide, .inl T_GongError.gC⟩ takes0 (fun W pn xe tk _ => (pss_one (ps_expr (pe_cx c_measures hr hk_measures tk (by rfl) (pa_cons (pv 0) pa_nil))))) (fun a oe cls d pn hz hv => (pss_one (ps_set (i := 1) sc_law_refused.nd rfl (Or.inl rfl) (pv 2)))))
  (pss_one (ps_ret (pe_cc c_law_word hr hk_law_word (by rfl) (pa_cons (pv 1) pa_nil))))))
end Gp

namespace Gp
open PySem L2 Evl
abbrev s_law : Stmt := top 36
theorem sc_law : FnScope N_law ["_law_script"] (defScope s_law) := ⟨rfl, rfl, rfl, by decide +kernel, rfl, by decide +kernel, by decide +kernel⟩
end Gp
namespace Gp
open PySem L2 Evl
theorem fn_law {P : Program} {w : World} {K : PySem.W.Frag} {mg : Str → Option Value} {base : Heap} {k : Nat} {sp : Sp} {f : Addr} {fd : FuncData} (F : Fun K "law" "law" s_law f fd) (B : Bi mg) {k_law_game : Nat} {sp_law_game : Sp} (c_law_game : CalC P w K mg base k_law_game "_law_game" sp_law_game) (hk_law_game : k_law_game ≤ k) {k_law_copied : Nat} {sp_law_copied : Sp} (c_law_copied : CalC P w K mg base k_law_copied "_law_copied" sp_law_copied) (hk_law_copied : k_law_copied ≤ k) {k_law_measures : Nat} {sp_law_measures : Sp} (c_law_measures : CalC P w K mg base k_law_measures "_law_measures" sp_law_measures) (hk_law_measures : k_law_measures ≤ k) {k_measures : Nat} {sp_measures : Sp} (c_measures : CalX P w K mg base k_measures "measures" sp_measures) (hk_measures : k_measures ≤ k) {k_won : Nat} {sp_won : Sp} (c_won : CalC P w K mg base k_won "won" sp_won) (hk_won : k_won ≤ k) {k_law_refused : Nat} {sp_law_refused : Sp} (c_law_refused : CalC P w K mg base k_law_refused "_law_refused" sp_law_refused) (hk_law_refused : k_law_refused ≤ k) (len : ∀ vs H Q E, sp vs H Q E → vs.length = 1)
    (pure : ∀ vs H Q E, sp vs H Q E → t_law K sp_law_game sp_law_copied sp_law_measures sp_measures sp_won sp_law_refused { nx := fun _ H' => Q .non H', rt := Q } (start N_law vs) H) : FnOk P w K mg base CX0 (k + 1) f fd ["_law_script"] sp := by
  refine F.ok sc_law len (fun cdv A outer s H vs Q E hr h => ⟨t_law K sp_law_game sp_law_copied sp_law_measures sp_measures sp_won sp_law_refused, ?_, pure vs H Q E h⟩)
  have hu := hu_of hr
  exact (pss_cons (ps_set (i := 1) sc_law.nd rfl (Or.inl rfl) (pe_cc c_law_game hr hk_law_game (by rfl) (pa_cons (pv 0) (pa_cons (pe_ix ix_list (pe_lst (pa_cons pe_int (pa_cons pe_int (pa_cons pe_int (pa_cons pe_int (pa_cons pe_int (pa_cons pe_int (pa_cons pe_int (pa_cons pe_int pa_nil))))))))) (pe_op op_mod (pe_callB call_len_seq (by rfl) B.len PySem.boot_len (pa_cons (pv 0) pa_nil)) pe_int) (fun _ _ => rfl)) pa_nil))))
  (pss_cons (ps_set (i := 2) sc_law.nd rfl (Or.inl rfl) (pe_cc c_law_copied hr hk_law_copied (by rfl) (pa_cons (pv 1) pa_nil)))
  (pss_cons (ps_set (i := 3) sc_law.nd rfl (Or.inl rfl) (pe_cc c_law_measures hr hk_law_measures (by rfl) (pa_cons (pv 1) pa_nil)))
  (pss_cons (ps_set (i := 4) sc_law.nd rfl (Or.inl rfl) (pe_cx0 c_measures hr hk_measures (by rfl) (pa_cons (pv 2) pa_nil)))
  (pss_cons (ps_if (PW.pt (pw_or (pt_not (pt_val (pe_callB call_isi (by rfl) B.isinstance (by decide +kernel) (pa_cons (pv 4) (pa_cons (pe_bltn (v := .ty "list") (by rfl) B.list_ (by decide +kernel) rfl) pa_nil))))) (pw_or (pt_cmpR (op_neD hr.units) (pv 4) (pv 3) (nomark _)) (pw_or1 (pt_cmpR (op_neD hr.units) (pv 2) (pv 1) (nomark _)))))) (pss_one (ps_ret pe_bl)) pss_nil)
  (pss_cons (ps_if (pt_cmpR (op_neD hr.units) (pe_lc (own := [("_law_one", 6)]) (g := (gName 6)) rfl sc_law.nd (pi_list (pv 4)) (blkOk_by (own := [("_law_one", 6)]) (N := N_law) (sc := defScope s_law) (by decide +kernel)) (fun _ _ _ _ _ => (pg_name (i := 6) sc_law.nd rfl (Or.inl rfl))) (fun _ _ _ _ _ => (pts_one (PW.pt (pw_and (pt_cmpR op_notN (pv 6) pe_non (nomark _)) (pw_and1 (pt_not (pt_val (pe_callB call_isi (by rfl) B.isinstance (by decide +kernel) (pa_cons (pv 6) (pa_cons (pe_bltn (v := .ty "tuple") (by rfl) B.tuple_ (by decide +kernel) rfl) pa_nil)))))))))) (fun _ _ _ _ _ => (pv 6))) (pe_lst pa_nil) (nomark _)) (pss_one (ps_ret pe_bl)) pss_nil)
  (pss_cons (ps_if (pt_cmpR (op_neD hr.units) (pe_lc (own := [("_law_one", 6)]) (g := (gName 6)) rfl sc_law.nd (pi_list (pv 4)) (blkOk_by (own := [("_law_one", 6)]) (N := N_law) (sc := defScope s_law) (by decide +kernel)) (fun _ _ _ _ _ => (pg_name (i := 6) sc_law.nd rfl (Or.inl rfl))) (fun _ _ _ _ _ => pts_nil) (fun _ _ _ _ _ => (pe_callTy call_int1 (by rfl) B.int_ (by decide +kernel) (pa_cons (pe_cmpR op_isN (pv 6) pe_non (nomark _)) pa_nil)))) (pe_cc c_won hr hk_won (by rfl) (pa_cons (pv 1) pa_nil)) (nomark _)) (pss_one (ps_ret pe_bl)) pss_nil)
  (pss_cons (ps_expr (pe_bm PySem.F.plainAttrs_list PySem.F.slot_list_append PySem.F.type_list_append mt_append (pv 4) (pa_cons pe_non pa_nil)))
  (pss_cons (ps_if (PW.pt (pw_or (pt_cmpR (op_neD hr.units) (pe_cx0 c_measures hr hk_measures (by rfl) (pa_cons (pv 1) pa_nil)) (pv 3) (nomark _)) (pw_or1 (pt_cmpR (op_neD hr.units) (pe_cx0 c_measures hr hk_measures (by rfl) (pa_cons (pe_lst pa_nil) pa_nil)) (pe_lst pa_nil) (nomark _))))) (pss_one (ps_ret pe_bl)) pss_nil)
  (pss_cons (ps_set (i := 5) sc_law.nd rfl (Or.inl rfl) (pe_op op_catS (pv 1) (pe_lc (own := [("_law_place", 7)]) (g := (gName 7)) rfl sc_law.nd (pi_range2 (by rfl) B.range (pa_cons (pe_callB call_len_seq (by rfl) B.len PySem.boot_len (pa_cons (pv 1) pa_nil)) (pa_cons pe_int pa_nil))) (blkOk_by (own := [("_law_place", 7)]) (N := N_law) (sc := defScope s_law) (by decide +kernel)) (fun _ _ _ _ _ => (pg_name (i := 7) sc_law.nd rfl (Or.inl rfl))) (fun _ _ _ _ _ => pts_nil) (fun _ _ _ _ _ => (pe_tup (pa_cons (pe_op op_mod (pv 7) pe_int) (pa_cons (pv 7) (pa_cons (pe_lst (pa_cons (pv 7) pa_nil)) pa_nil))))))))
  (pss_one (ps_ret (pe_and (pe_cmpR op_eq (pe_cc c_law_refused hr hk_law_refused (by rfl) (pa_cons (pv 5) pa_nil)) pe_str (nomark _)) (pe_one (pe_cmpR op_eq (pe_cc c_law_refused hr hk_law_refused (by rfl) (pa_cons (pe_slice sl_list (pv 5) po_none (po_some pe_int)) pa_nil)) pe_str (nomark _))))))))))))))))
end Gp

namespace Gp
open PySem L2 Evl
theorem def_mk {K : PySem.W.Frag} {h : Heap} {mg : Str → Option Value} {x : Str} {st : Stmt} {ps : List Str} {f : Addr} {oc : Value} {od an : Option Addr} {osl : Array (Option Value)} {kV doc pm cdv ct : Value} (X : K.In h) (G : h.Ns mainGlobals mg)
    (a : PySem.W.nsIn K mainGlobals x = some (some (.ref f))) (l : K.lookup f = some ⟨oc, od, .func (PySem.W.fnOf x x (defArgs st) (defBody st) (defScope st) .none kV doc pm an cdv ct), osl⟩) (c : PySem.W.codeIn K cdv x = true) (k : PySem.W.keepIn K (.ref f) = true)
    (hb : ∀ (kV doc pm : Value) (an : Option Addr) (cdv ct : Value) (us : List Value), us.length = ps.length → bindArgs (PySem.W.fnOf x x (defArgs st) (defBody st) (defScope st) .none kV doc pm an cdv ct) ⟨us, []⟩ = pure (ps.zip us)) : DefC K mg x st ps :=
  ⟨f, _, fun_mk l c k, PySem.W.mg_of X G a, (fun_mk l c k).binds hb⟩
theorem all_mk {P : Program} {w : World} {K : PySem.W.Frag} {h : Heap} {mg : Str → Option Value} {fa : Addr} (X : K.In h) (G : h.Ns mainGlobals mg) (hfa : mg "law" = some (.ref fa))
    {f0 : Addr} {od0 an0 : Option Addr} {sl0 : Array (Option Value)} {oc0 kV0 dc0 pm0 cd0 ct0 : Value}
    {f1 : Addr} {od1 an1 : Option Addr} {sl1 : Array (Option Value)} {oc1 kV1 dc1 pm1 cd1 ct1 : Value}
    {f2 : Addr} {od2 an2 : Option Addr} {sl2 : Array (Option Value)} {oc2 kV2 dc2 pm2 cd2 ct2 : Value}
    {f3 : Addr} {od3 an3 : Option Addr} {sl3 : Array (Option Value)} {oc3 kV3 dc3 pm3 cd3 ct3 : Value}
    {f4 : Addr} {od4 an4 : Option Addr} {sl4 : Array (Option Value)} {oc4 kV4 dc4 pm4 cd4 ct4 : Value}
    {f5 : Addr} {od5 an5 : Option Addr} {sl5 : Array (Option Value)} {oc5 kV5 dc5 pm5 cd5 ct5 : Value}
    {f6 : Addr} {od6 an6 : Option Addr} {sl6 : Array (Option Value)} {oc6 kV6 dc6 pm6 cd6 ct6 : Value}
    {f7 : Addr} {od7 an7 : Option Addr} {sl7 : Array (Option Value)} {oc7 kV7 dc7 pm7 cd7 ct7 : Value}
    {f8 : Addr} {od8 an8 : Option Addr} {sl8 : Array (Option Value)} {oc8 kV8 dc8 pm8 cd8 ct8 : Value}
    {f9 : Addr} {od9 an9 : Option Addr} {sl9 : Array (Option Value)} {oc9 kV9 dc9 pm9 cd9 ct9 : Value}
    {f10 : Addr} {od10 an10 : Option Addr} {sl10 : Array (Option Value)} {oc10 kV10 dc10 pm10 cd10 ct10 : Value}
    {f11 : Addr} {od11 an11 : Option Addr} {sl11 : Array (Option Value)} {oc11 kV11 dc11 pm11 cd11 ct11 : Value}
    {f12 : Addr} {od12 an12 : Option Addr} {sl12 : Array (Option Value)} {oc12 kV12 dc12 pm12 cd12 ct12 : Value}
    {f13 : Addr} {od13 an13 : Option Addr} {sl13 : Array (Option Value)} {oc13 kV13 dc13 pm13 cd13 ct13 : Value}
    {f14 : Addr} {od14 an14 : Option Addr} {sl14 : Array (Option Value)} {oc14 kV14 dc14 pm14 cd14 ct14 : Value}
    {f15 : Addr} {od15 an15 : Option Addr} {sl15 : Array (Option Value)} {oc15 kV15 dc15 pm15 cd15 ct15 : Value}
    {f16 : Addr} {od16 an16 : Option Addr} {sl16 : Array (Option Value)} {oc16 kV16 dc16 pm16 cd16 ct16 : Value}
    {f17 : Addr} {od17 an17 : Option Addr} {sl17 : Array (Option Value)} {oc17 kV17 dc17 pm17 cd17 ct17 : Value}
    {f18 : Addr} {od18 an18 : Option Addr} {sl18 : Array (Option Value)} {oc18 kV18 dc18 pm18 cd18 ct18 : Value}
    {f19 : Addr} {od19 an19 : Option Addr} {sl19 : Array (Option Value)} {oc19 kV19 dc19 pm19 cd19 ct19 : Value}
    {f20 : Addr} {od20 an20 : Option Addr} {sl20 : Array (Option Value)} {oc20 kV20 dc20 pm20 cd20 ct20 : Value}
    {f21 : Addr} {od21 an21 : Option Addr} {sl21 : Array (Option Value)} {oc21 kV21 dc21 pm21 cd21 ct21 : Value}
    {f22 : Addr} {od22 an22 : Option Addr} {sl22 : Array (Option Value)} {oc22 kV22 dc22 pm22 cd22 ct22 : Value}
    {tk_MOST_PLACES : Tok}
    {tk_MOST_MEASURED : Tok}
    {C_GongError : Addr} {C_BadGame : Addr} {C_BadPlayer : Addr} {C_BadPlace : Addr} {C_BadSteps : Addr} {C_TooMany : Addr}
    (a0 : PySem.W.nsIn K mainGlobals "is_whole" = some (some (.ref f0)))
    (l0 : K.lookup f0 = some ⟨oc0, od0, .func (PySem.W.fnOf "is_whole" "is_whole" (defArgs s_is_whole) (defBody s_is_whole) (defScope s_is_whole) .none kV0 dc0 pm0 an0 cd0 ct0), sl0⟩)
    (c0 : PySem.W.codeIn K cd0 "is_whole" = true)
    (k0 : PySem.W.keepIn K (.ref f0) = true)
    (a1 : PySem.W.nsIn K mainGlobals "is_place" = some (some (.ref f1)))
    (l1 : K.lookup f1 = some ⟨oc1, od1, .func (PySem.W.fnOf "is_place" "is_place" (defArgs s_is_place) (defBody s_is_place) (defScope s_is_place) .none kV1 dc1 pm1 an1 cd1 ct1), sl1⟩)
    (c1 : PySem.W.codeIn K cd1 "is_place" = true)
    (k1 : PySem.W.keepIn K (.ref f1) = true)
    (a2 : PySem.W.nsIn K mainGlobals "are_places" = some (some (.ref f2)))
    (l2 : K.lookup f2 = some ⟨oc2, od2, .func (PySem.W.fnOf "are_places" "are_places" (defArgs s_are_places) (defBody s_are_places) (defScope s_are_places) .none kV2 dc2 pm2 an2 cd2 ct2), sl2⟩)
    (c2 : PySem.W.codeIn K cd2 "are_places" = true)
    (k2 : PySem.W.keepIn K (.ref f2) = true)
    (a3 : PySem.W.nsIn K mainGlobals "is_row" = some (some (.ref f3)))
    (l3 : K.lookup f3 = some ⟨oc3, od3, .func (PySem.W.fnOf "is_row" "is_row" (defArgs s_is_row) (defBody s_is_row) (defScope s_is_row) .none kV3 dc3 pm3 an3 cd3 ct3), sl3⟩)
    (c3 : PySem.W.codeIn K cd3 "is_row" = true)
    (k3 : PySem.W.keepIn K (.ref f3) = true)
    (a4 : PySem.W.nsIn K mainGlobals "need_game" = some (some (.ref f4)))
    (l4 : K.lookup f4 = some ⟨oc4, od4, .func (PySem.W.fnOf "need_game" "need_game" (defArgs s_need_game) (defBody s_need_game) (defScope s_need_game) .none kV4 dc4 pm4 an4 cd4 ct4), sl4⟩)
    (c4 : PySem.W.codeIn K cd4 "need_game" = true)
    (k4 : PySem.W.keepIn K (.ref f4) = true)
    (a5 : PySem.W.nsIn K mainGlobals "counts_of" = some (some (.ref f5)))
    (l5 : K.lookup f5 = some ⟨oc5, od5, .func (PySem.W.fnOf "counts_of" "counts_of" (defArgs s_counts_of) (defBody s_counts_of) (defScope s_counts_of) .none kV5 dc5 pm5 an5 cd5 ct5), sl5⟩)
    (c5 : PySem.W.codeIn K cd5 "counts_of" = true)
    (k5 : PySem.W.keepIn K (.ref f5) = true)
    (a6 : PySem.W.nsIn K mainGlobals "behind" = some (some (.ref f6)))
    (l6 : K.lookup f6 = some ⟨oc6, od6, .func (PySem.W.fnOf "behind" "behind" (defArgs s_behind) (defBody s_behind) (defScope s_behind) .none kV6 dc6 pm6 an6 cd6 ct6), sl6⟩)
    (c6 : PySem.W.codeIn K cd6 "behind" = true)
    (k6 : PySem.W.keepIn K (.ref f6) = true)
    (a7 : PySem.W.nsIn K mainGlobals "is_more" = some (some (.ref f7)))
    (l7 : K.lookup f7 = some ⟨oc7, od7, .func (PySem.W.fnOf "is_more" "is_more" (defArgs s_is_more) (defBody s_is_more) (defScope s_is_more) .none kV7 dc7 pm7 an7 cd7 ct7), sl7⟩)
    (c7 : PySem.W.codeIn K cd7 "is_more" = true)
    (k7 : PySem.W.keepIn K (.ref f7) = true)
    (a8 : PySem.W.nsIn K mainGlobals "lifted" = some (some (.ref f8)))
    (l8 : K.lookup f8 = some ⟨oc8, od8, .func (PySem.W.fnOf "lifted" "lifted" (defArgs s_lifted) (defBody s_lifted) (defScope s_lifted) .none kV8 dc8 pm8 an8 cd8 ct8), sl8⟩)
    (c8 : PySem.W.codeIn K cd8 "lifted" = true)
    (k8 : PySem.W.keepIn K (.ref f8) = true)
    (a9 : PySem.W.nsIn K mainGlobals "measures" = some (some (.ref f9)))
    (l9 : K.lookup f9 = some ⟨oc9, od9, .func (PySem.W.fnOf "measures" "measures" (defArgs s_measures) (defBody s_measures) (defScope s_measures) .none kV9 dc9 pm9 an9 cd9 ct9), sl9⟩)
    (c9 : PySem.W.codeIn K cd9 "measures" = true)
    (k9 : PySem.W.keepIn K (.ref f9) = true)
    (a10 : PySem.W.nsIn K mainGlobals "drawn_in" = some (some (.ref f10)))
    (l10 : K.lookup f10 = some ⟨oc10, od10, .func (PySem.W.fnOf "drawn_in" "drawn_in" (defArgs s_drawn_in) (defBody s_drawn_in) (defScope s_drawn_in) .none kV10 dc10 pm10 an10 cd10 ct10), sl10⟩)
    (c10 : PySem.W.codeIn K cd10 "drawn_in" = true)
    (k10 : PySem.W.keepIn K (.ref f10) = true)
    (a11 : PySem.W.nsIn K mainGlobals "won_by_all" = some (some (.ref f11)))
    (l11 : K.lookup f11 = some ⟨oc11, od11, .func (PySem.W.fnOf "won_by_all" "won_by_all" (defArgs s_won_by_all) (defBody s_won_by_all) (defScope s_won_by_all) .none kV11 dc11 pm11 an11 cd11 ct11), sl11⟩)
    (c11 : PySem.W.codeIn K cd11 "won_by_all" = true)
    (k11 : PySem.W.keepIn K (.ref f11) = true)
    (a12 : PySem.W.nsIn K mainGlobals "parted" = some (some (.ref f12)))
    (l12 : K.lookup f12 = some ⟨oc12, od12, .func (PySem.W.fnOf "parted" "parted" (defArgs s_parted) (defBody s_parted) (defScope s_parted) .none kV12 dc12 pm12 an12 cd12 ct12), sl12⟩)
    (c12 : PySem.W.codeIn K cd12 "parted" = true)
    (k12 : PySem.W.keepIn K (.ref f12) = true)
    (a13 : PySem.W.nsIn K mainGlobals "won" = some (some (.ref f13)))
    (l13 : K.lookup f13 = some ⟨oc13, od13, .func (PySem.W.fnOf "won" "won" (defArgs s_won) (defBody s_won) (defScope s_won) .none kV13 dc13 pm13 an13 cd13 ct13), sl13⟩)
    (c13 : PySem.W.codeIn K cd13 "won" = true)
    (k13 : PySem.W.keepIn K (.ref f13) = true)
    (a14 : PySem.W.nsIn K mainGlobals "_law_mixed" = some (some (.ref f14)))
    (l14 : K.lookup f14 = some ⟨oc14, od14, .func (PySem.W.fnOf "_law_mixed" "_law_mixed" (defArgs s_law_mixed) (defBody s_law_mixed) (defScope s_law_mixed) .none kV14 dc14 pm14 an14 cd14 ct14), sl14⟩)
    (c14 : PySem.W.codeIn K cd14 "_law_mixed" = true)
    (k14 : PySem.W.keepIn K (.ref f14) = true)
    (a15 : PySem.W.nsIn K mainGlobals "_law_game" = some (some (.ref f15)))
    (l15 : K.lookup f15 = some ⟨oc15, od15, .func (PySem.W.fnOf "_law_game" "_law_game" (defArgs s_law_game) (defBody s_law_game) (defScope s_law_game) .none kV15 dc15 pm15 an15 cd15 ct15), sl15⟩)
    (c15 : PySem.W.codeIn K cd15 "_law_game" = true)
    (k15 : PySem.W.keepIn K (.ref f15) = true)
    (a16 : PySem.W.nsIn K mainGlobals "_law_copied" = some (some (.ref f16)))
    (l16 : K.lookup f16 = some ⟨oc16, od16, .func (PySem.W.fnOf "_law_copied" "_law_copied" (defArgs s_law_copied) (defBody s_law_copied) (defScope s_law_copied) .none kV16 dc16 pm16 an16 cd16 ct16), sl16⟩)
    (c16 : PySem.W.codeIn K cd16 "_law_copied" = true)
    (k16 : PySem.W.keepIn K (.ref f16) = true)
    (a17 : PySem.W.nsIn K mainGlobals "_law_word" = some (some (.ref f17)))
    (l17 : K.lookup f17 = some ⟨oc17, od17, .func (PySem.W.fnOf "_law_word" "_law_word" (defArgs s_law_word) (defBody s_law_word) (defScope s_law_word) .none kV17 dc17 pm17 an17 cd17 ct17), sl17⟩)
    (c17 : PySem.W.codeIn K cd17 "_law_word" = true)
    (k17 : PySem.W.keepIn K (.ref f17) = true)
    (a18 : PySem.W.nsIn K mainGlobals "_law_wanted" = some (some (.ref f18)))
    (l18 : K.lookup f18 = some ⟨oc18, od18, .func (PySem.W.fnOf "_law_wanted" "_law_wanted" (defArgs s_law_wanted) (defBody s_law_wanted) (defScope s_law_wanted) .none kV18 dc18 pm18 an18 cd18 ct18), sl18⟩)
    (c18 : PySem.W.codeIn K cd18 "_law_wanted" = true)
    (k18 : PySem.W.keepIn K (.ref f18) = true)
    (a19 : PySem.W.nsIn K mainGlobals "_law_rank" = some (some (.ref f19)))
    (l19 : K.lookup f19 = some ⟨oc19, od19, .func (PySem.W.fnOf "_law_rank" "_law_rank" (defArgs s_law_rank) (defBody s_law_rank) (defScope s_law_rank) .none kV19 dc19 pm19 an19 cd19 ct19), sl19⟩)
    (c19 : PySem.W.codeIn K cd19 "_law_rank" = true)
    (k19 : PySem.W.keepIn K (.ref f19) = true)
    (a20 : PySem.W.nsIn K mainGlobals "_law_measures" = some (some (.ref f20)))
    (l20 : K.lookup f20 = some ⟨oc20, od20, .func (PySem.W.fnOf "_law_measures" "_law_measures" (defArgs s_law_measures) (defBody s_law_measures) (defScope s_law_measures) .none kV20 dc20 pm20 an20 cd20 ct20), sl20⟩)
    (c20 : PySem.W.codeIn K cd20 "_law_measures" = true)
    (k20 : PySem.W.keepIn K (.ref f20) = true)
    (a21 : PySem.W.nsIn K mainGlobals "_law_refused" = some (some (.ref f21)))
    (l21 : K.lookup f21 = some ⟨oc21, od21, .func (PySem.W.fnOf "_law_refused" "_law_refused" (defArgs s_law_refused) (defBody s_law_refused) (defScope s_law_refused) .none kV21 dc21 pm21 an21 cd21 ct21), sl21⟩)
    (c21 : PySem.W.codeIn K cd21 "_law_refused" = true)
    (k21 : PySem.W.keepIn K (.ref f21) = true)
    (a22 : PySem.W.nsIn K mainGlobals "law" = some (some (.ref f22)))
    (l22 : K.lookup f22 = some ⟨oc22, od22, .func (PySem.W.fnOf "law" "law" (defArgs s_law) (defBody s_law) (defScope s_law) .none kV22 dc22 pm22 an22 cd22 ct22), sl22⟩)
    (c22 : PySem.W.codeIn K cd22 "law" = true)
    (k22 : PySem.W.keepIn K (.ref f22) = true)
    (z_len : PySem.W.nsIn K mainGlobals "len" = some none)
    (z_isinstance : PySem.W.nsIn K mainGlobals "isinstance" = some none)
    (z_all : PySem.W.nsIn K mainGlobals "all" = some none)
    (z_sum : PySem.W.nsIn K mainGlobals "sum" = some none)
    (z_max : PySem.W.nsIn K mainGlobals "max" = some none)
    (z_min : PySem.W.nsIn K mainGlobals "min" = some none)
    (z_range : PySem.W.nsIn K mainGlobals "range" = some none)
    (z_enumerate : PySem.W.nsIn K mainGlobals "enumerate" = some none)
    (z_reversed : PySem.W.nsIn K mainGlobals "reversed" = some none)
    (z_sorted : PySem.W.nsIn K mainGlobals "sorted" = some none)
    (z_set : PySem.W.nsIn K mainGlobals "set" = some none)
    (z_list : PySem.W.nsIn K mainGlobals "list" = some none)
    (z_tuple : PySem.W.nsIn K mainGlobals "tuple" = some none)
    (z_int : PySem.W.nsIn K mainGlobals "int" = some none)
    (z_bool : PySem.W.nsIn K mainGlobals "bool" = some none)
    (g_MOST_PLACES : PySem.W.nsIn K mainGlobals "MOST_PLACES" = some (some (.int 40 tk_MOST_PLACES)))
    (g_MOST_MEASURED : PySem.W.nsIn K mainGlobals "MOST_MEASURED" = some (some (.int 10 tk_MOST_MEASURED)))
    (z_ValueError : PySem.W.nsIn K mainGlobals "ValueError" = some none)
    (sp0 : PySem.W.specialIn K (.builtin "object.__class__") "__get__" = some (some (.builtin "getset_descriptor.__get__")))
    (tk0 : PySem.W.takesIn K (.builtin "object.__class__") = some true)
    (gn_GongError : PySem.W.nsIn K mainGlobals "GongError" = some (some (.ref C_GongError)))
    (kp_GongError : PySem.W.keepIn K (.ref C_GongError) = true)
    (be_GongError : PySem.W.subIn K (.ref C_GongError) (.type "BaseException") = some true)
    (ty_GongError : PySem.W.typeIn K (.ref C_GongError) = some (.type "type"))
    (ga_GongError : PySem.W.findIn K (.ref C_GongError) "__getattribute__" = some (some (.builtin "BaseException.__getattribute__")))
    (gg_GongError : PySem.W.findIn K (.ref C_GongError) "__getattr__" = some none)
    (hd_GongError : PySem.W.hasDictIn K C_GongError = true)
    (hc_GongError : PySem.W.findIn K (.ref C_GongError) "__class__" = some (some (.builtin "object.__class__")))
    (mr_GongError : PySem.W.mroIn K C_GongError (.type "object") = some true)
    (ci_GongError : (PySem.W.clsIn K C_GongError).isSome = true)
    (gn_BadGame : PySem.W.nsIn K mainGlobals "BadGame" = some (some (.ref C_BadGame)))
    (kp_BadGame : PySem.W.keepIn K (.ref C_BadGame) = true)
    (be_BadGame : PySem.W.subIn K (.ref C_BadGame) (.type "BaseException") = some true)
    (ty_BadGame : PySem.W.typeIn K (.ref C_BadGame) = some (.type "type"))
    (ga_BadGame : PySem.W.findIn K (.ref C_BadGame) "__getattribute__" = some (some (.builtin "BaseException.__getattribute__")))
    (gg_BadGame : PySem.W.findIn K (.ref C_BadGame) "__getattr__" = some none)
    (hd_BadGame : PySem.W.hasDictIn K C_BadGame = true)
    (hc_BadGame : PySem.W.findIn K (.ref C_BadGame) "__class__" = some (some (.builtin "object.__class__")))
    (mr_BadGame : PySem.W.mroIn K C_BadGame (.type "object") = some true)
    (ci_BadGame : (PySem.W.clsIn K C_BadGame).isSome = true)
    (gn_BadPlayer : PySem.W.nsIn K mainGlobals "BadPlayer" = some (some (.ref C_BadPlayer)))
    (kp_BadPlayer : PySem.W.keepIn K (.ref C_BadPlayer) = true)
    (be_BadPlayer : PySem.W.subIn K (.ref C_BadPlayer) (.type "BaseException") = some true)
    (ty_BadPlayer : PySem.W.typeIn K (.ref C_BadPlayer) = some (.type "type"))
    (ga_BadPlayer : PySem.W.findIn K (.ref C_BadPlayer) "__getattribute__" = some (some (.builtin "BaseException.__getattribute__")))
    (gg_BadPlayer : PySem.W.findIn K (.ref C_BadPlayer) "__getattr__" = some none)
    (hd_BadPlayer : PySem.W.hasDictIn K C_BadPlayer = true)
    (hc_BadPlayer : PySem.W.findIn K (.ref C_BadPlayer) "__class__" = some (some (.builtin "object.__class__")))
    (mr_BadPlayer : PySem.W.mroIn K C_BadPlayer (.type "object") = some true)
    (ci_BadPlayer : (PySem.W.clsIn K C_BadPlayer).isSome = true)
    (gn_BadPlace : PySem.W.nsIn K mainGlobals "BadPlace" = some (some (.ref C_BadPlace)))
    (kp_BadPlace : PySem.W.keepIn K (.ref C_BadPlace) = true)
    (be_BadPlace : PySem.W.subIn K (.ref C_BadPlace) (.type "BaseException") = some true)
    (ty_BadPlace : PySem.W.typeIn K (.ref C_BadPlace) = some (.type "type"))
    (ga_BadPlace : PySem.W.findIn K (.ref C_BadPlace) "__getattribute__" = some (some (.builtin "BaseException.__getattribute__")))
    (gg_BadPlace : PySem.W.findIn K (.ref C_BadPlace) "__getattr__" = some none)
    (hd_BadPlace : PySem.W.hasDictIn K C_BadPlace = true)
    (hc_BadPlace : PySem.W.findIn K (.ref C_BadPlace) "__class__" = some (some (.builtin "object.__class__")))
    (mr_BadPlace : PySem.W.mroIn K C_BadPlace (.type "object") = some true)
    (ci_BadPlace : (PySem.W.clsIn K C_BadPlace).isSome = true)
    (gn_BadSteps : PySem.W.nsIn K mainGlobals "BadSteps" = some (some (.ref C_BadSteps)))
    (kp_BadSteps : PySem.W.keepIn K (.ref C_BadSteps) = true)
    (be_BadSteps : PySem.W.subIn K (.ref C_BadSteps) (.type "BaseException") = some true)
    (ty_BadSteps : PySem.W.typeIn K (.ref C_BadSteps) = some (.type "type"))
    (ga_BadSteps : PySem.W.findIn K (.ref C_BadSteps) "__getattribute__" = some (some (.builtin "BaseException.__getattribute__")))
    (gg_BadSteps : PySem.W.findIn K (.ref C_BadSteps) "__getattr__" = some none)
    (hd_BadSteps : PySem.W.hasDictIn K C_BadSteps = true)
    (hc_BadSteps : PySem.W.findIn K (.ref C_BadSteps) "__class__" = some (some (.builtin "object.__class__")))
    (mr_BadSteps : PySem.W.mroIn K C_BadSteps (.type "object") = some true)
    (ci_BadSteps : (PySem.W.clsIn K C_BadSteps).isSome = true)
    (gn_TooMany : PySem.W.nsIn K mainGlobals "TooMany" = some (some (.ref C_TooMany)))
    (kp_TooMany : PySem.W.keepIn K (.ref C_TooMany) = true)
    (be_TooMany : PySem.W.subIn K (.ref C_TooMany) (.type "BaseException") = some true)
    (ty_TooMany : PySem.W.typeIn K (.ref C_TooMany) = some (.type "type"))
    (ga_TooMany : PySem.W.findIn K (.ref C_TooMany) "__getattribute__" = some (some (.builtin "BaseException.__getattribute__")))
    (gg_TooMany : PySem.W.findIn K (.ref C_TooMany) "__getattr__" = some none)
    (hd_TooMany : PySem.W.hasDictIn K C_TooMany = true)
    (hc_TooMany : PySem.W.findIn K (.ref C_TooMany) "__class__" = some (some (.builtin "object.__class__")))
    (mr_TooMany : PySem.W.mroIn K C_TooMany (.type "object") = some true)
    (ci_TooMany : (PySem.W.clsIn K C_TooMany).isSome = true)
    (x_TooMany : PySem.W.excIn K C_TooMany [.type "ValueError", .type "Exception", .type "BaseException", .type "object"] "ValueError.__new__" = true)
    (k_TooMany_BadGame : PySem.W.kitOne K (.ref C_TooMany) (.ref C_BadGame) = some false)
    (k_TooMany_BadPlayer : PySem.W.kitOne K (.ref C_TooMany) (.ref C_BadPlayer) = some false)
    (k_TooMany_BadPlace : PySem.W.kitOne K (.ref C_TooMany) (.ref C_BadPlace) = some false)
    (k_TooMany_BadSteps : PySem.W.kitOne K (.ref C_TooMany) (.ref C_BadSteps) = some false)
    (k_TooMany_TooMany : PySem.W.kitOne K (.ref C_TooMany) (.ref C_TooMany) = some true)
    (kv_TooMany : PySem.W.kitOne K (.ref C_TooMany) (.type "ValueError") = some true)
    (em_TooMany : PySem.W.exmOne K (.ref C_TooMany) (.ref C_GongError) = some true)
    : ∃ fd : FuncData, (∀ (s : Shared) (v : Value), BindsTo s fd ⟨[v], []⟩ [("_law_script", v)]) ∧ ∀ base : Heap, K.In base → base.Ns mainGlobals mg → FnOk P w K mg base CX0 44 fa fd ["_law_script"] (spLaw K) := by
  have e := hfa.symm.trans (PySem.W.mg_of X G a22)
  cases e
  have B : Bi mg := { len := PySem.W.mg_none_of X G z_len, isinstance := PySem.W.mg_none_of X G z_isinstance, all := PySem.W.mg_none_of X G z_all, sum := PySem.W.mg_none_of X G z_sum, max := PySem.W.mg_none_of X G z_max, min := PySem.W.mg_none_of X G z_min, range := PySem.W.mg_none_of X G z_range, enumerate := PySem.W.mg_none_of X G z_enumerate, reversed := PySem.W.mg_none_of X G z_reversed, sorted := PySem.W.mg_none_of X G z_sorted, set_ := PySem.W.mg_none_of X G z_set, list_ := PySem.W.mg_none_of X G z_list, tuple_ := PySem.W.mg_none_of X G z_tuple, int_ := PySem.W.mg_none_of X G z_int, bool_ := PySem.W.mg_none_of X G z_bool }
  have d_is_whole : DefC K mg "is_whole" s_is_whole ["thing"] := def_mk X G a0 l0 c0 k0 fun _ _ _ _ _ _ us hl => match us, hl with | [_], _ => rfl
  have d_is_place : DefC K mg "is_place" s_is_place ["thing", "many"] := def_mk X G a1 l1 c1 k1 fun _ _ _ _ _ _ us hl => match us, hl with | [_, _], _ => rfl
  have d_are_places : DefC K mg "are_places" s_are_places ["thing", "many"] := def_mk X G a2 l2 c2 k2 fun _ _ _ _ _ _ us hl => match us, hl with | [_, _], _ => rfl
  have d_is_row : DefC K mg "is_row" s_is_row ["thing", "many"] := def_mk X G a3 l3 c3 k3 fun _ _ _ _ _ _ us hl => match us, hl with | [_, _], _ => rfl
  have d_need_game : DefC K mg "need_game" s_need_game ["game"] := def_mk X G a4 l4 c4 k4 fun _ _ _ _ _ _ us hl => match us, hl with | [_], _ => rfl
  have d_counts_of : DefC K mg "counts_of" s_counts_of ["game"] := def_mk X G a5 l5 c5 k5 fun _ _ _ _ _ _ us hl => match us, hl with | [_], _ => rfl
  have d_behind : DefC K mg "behind" s_behind ["counts", "number", "measure"] := def_mk X G a6 l6 c6 k6 fun _ _ _ _ _ _ us hl => match us, hl with | [_, _, _], _ => rfl
  have d_is_more : DefC K mg "is_more" s_is_more ["one", "other"] := def_mk X G a7 l7 c7 k7 fun _ _ _ _ _ _ us hl => match us, hl with | [_, _], _ => rfl
  have d_lifted : DefC K mg "lifted" s_lifted ["game", "counts", "known", "place"] := def_mk X G a8 l8 c8 k8 fun _ _ _ _ _ _ us hl => match us, hl with | [_, _, _, _], _ => rfl
  have d_measures : DefC K mg "measures" s_measures ["game"] := def_mk X G a9 l9 c9 k9 fun _ _ _ _ _ _ us hl => match us, hl with | [_], _ => rfl
  have d_drawn_in : DefC K mg "drawn_in" s_drawn_in ["game", "within", "player", "goals"] := def_mk X G a10 l10 c10 k10 fun _ _ _ _ _ _ us hl => match us, hl with | [_, _, _, _], _ => rfl
  have d_won_by_all : DefC K mg "won_by_all" s_won_by_all ["game", "within", "player", "steps", "pulls"] := def_mk X G a11 l11 c11 k11 fun _ _ _ _ _ _ us hl => match us, hl with | [_, _, _, _, _], _ => rfl
  have d_parted : DefC K mg "parted" s_parted ["game", "within"] := def_mk X G a12 l12 c12 k12 fun _ _ _ _ _ _ us hl => match us, hl with | [_, _], _ => rfl
  have d_won : DefC K mg "won" s_won ["game"] := def_mk X G a13 l13 c13 k13 fun _ _ _ _ _ _ us hl => match us, hl with | [_], _ => rfl
  have d_law_mixed : DefC K mg "_law_mixed" s_law_mixed ["_law_number", "_law_k"] := def_mk X G a14 l14 c14 k14 fun _ _ _ _ _ _ us hl => match us, hl with | [_, _], _ => rfl
  have d_law_game : DefC K mg "_law_game" s_law_game ["_law_script", "_law_most"] := def_mk X G a15 l15 c15 k15 fun _ _ _ _ _ _ us hl => match us, hl with | [_, _], _ => rfl
  have d_law_copied : DefC K mg "_law_copied" s_law_copied ["_law_game_here"] := def_mk X G a16 l16 c16 k16 fun _ _ _ _ _ _ us hl => match us, hl with | [_], _ => rfl
  have d_law_word : DefC K mg "_law_word" s_law_word ["_law_e"] := def_mk X G a17 l17 c17 k17 fun _ _ _ _ _ _ us hl => match us, hl with | [_], _ => rfl
  have d_law_wanted : DefC K mg "_law_wanted" s_law_wanted ["_law_counts", "_law_number", "_law_known"] := def_mk X G a18 l18 c18 k18 fun _ _ _ _ _ _ us hl => match us, hl with | [_, _, _], _ => rfl
  have d_law_rank : DefC K mg "_law_rank" s_law_rank ["_law_measure"] := def_mk X G a19 l19 c19 k19 fun _ _ _ _ _ _ us hl => match us, hl with | [_], _ => rfl
  have d_law_measures : DefC K mg "_law_measures" s_law_measures ["_law_game_here"] := def_mk X G a20 l20 c20 k20 fun _ _ _ _ _ _ us hl => match us, hl with | [_], _ => rfl
  have d_law_refused : DefC K mg "_law_refused" s_law_refused ["_law_game_here"] := def_mk X G a21 l21 c21 k21 fun _ _ _ _ _ _ us hl => match us, hl with | [_], _ => rfl
  have BV : mg "ValueError" = none := PySem.W.mg_none_of X G z_ValueError
  have T_GongError : ExcT K mg "GongError" C_GongError := ⟨PySem.W.mg_of X G gn_GongError, kp_GongError, be_GongError, ty_GongError, ga_GongError, gg_GongError, hd_GongError, hc_GongError, mr_GongError, ci_GongError⟩
  have T_BadGame : ExcT K mg "BadGame" C_BadGame := ⟨PySem.W.mg_of X G gn_BadGame, kp_BadGame, be_BadGame, ty_BadGame, ga_BadGame, gg_BadGame, hd_BadGame, hc_BadGame, mr_BadGame, ci_BadGame⟩
  have T_BadPlayer : ExcT K mg "BadPlayer" C_BadPlayer := ⟨PySem.W.mg_of X G gn_BadPlayer, kp_BadPlayer, be_BadPlayer, ty_BadPlayer, ga_BadPlayer, gg_BadPlayer, hd_BadPlayer, hc_BadPlayer, mr_BadPlayer, ci_BadPlayer⟩
  have T_BadPlace : ExcT K mg "BadPlace" C_BadPlace := ⟨PySem.W.mg_of X G gn_BadPlace, kp_BadPlace, be_BadPlace, ty_BadPlace, ga_BadPlace, gg_BadPlace, hd_BadPlace, hc_BadPlace, mr_BadPlace, ci_BadPlace⟩
  have T_BadSteps : ExcT K mg "BadSteps" C_BadSteps := ⟨PySem.W.mg_of X G gn_BadSteps, kp_BadSteps, be_BadSteps, ty_BadSteps, ga_BadSteps, gg_BadSteps, hd_BadSteps, hc_BadSteps, mr_BadSteps, ci_BadSteps⟩
  have T_TooMany : ExcT K mg "TooMany" C_TooMany := ⟨PySem.W.mg_of X G gn_TooMany, kp_TooMany, be_TooMany, ty_TooMany, ga_TooMany, gg_TooMany, hd_TooMany, hc_TooMany, mr_TooMany, ci_TooMany⟩
  have kit_TooMany : KitT K ⟨C_BadGame, C_BadPlayer, C_BadPlace, C_BadSteps, C_TooMany⟩ C_TooMany 4 := ⟨⟨_, _, T_TooMany⟩, sp0, tk0, k_TooMany_BadGame, k_TooMany_BadPlayer, k_TooMany_BadPlace, k_TooMany_BadSteps, k_TooMany_TooMany, kv_TooMany⟩
  refine ⟨PySem.W.fnOf "law" "law" (defArgs s_law) (defBody s_law) (defScope s_law) .none kV22 dc22 pm22 an22 cd22 ct22, fun s v => .of_eq rfl, fun base _ _ => ?_⟩
  have c_is_whole := ok_is_whole (P := P) (w := w) (base := base) (k := 0) d_is_whole B (sp := sp_is_whole K) (by rintro _ _ _ _ ⟨_, _, rfl, _⟩; rfl) pure_is_whole
  have c_is_place := ok_is_place (k := 1) d_is_place B c_is_whole (by decide) (sp := sp_is_place K) (by rintro _ _ _ _ ⟨_, _, _, rfl, _⟩; rfl) pure_is_place
  have c_are_places := ok_are_places (k := 2) d_are_places B c_is_place (by decide) (sp := sp_are_places K) (by rintro _ _ _ _ ⟨_, _, _, rfl, _⟩; rfl) pure_are_places
  have c_is_row := ok_is_row (k := 3) d_is_row B c_is_place (by decide) c_is_whole (by decide) c_are_places (by decide) (sp := sp_is_row K) (by rintro _ _ _ _ ⟨_, _, _, rfl, _⟩; rfl) pure_is_row
  have c_need_game := ok_need_game (k := 4) d_need_game B (PySem.W.mg_of X G g_MOST_PLACES) c_is_row (by decide) (sp := sp_need_game K) (by rintro _ _ _ _ ⟨_, _, rfl, _⟩; rfl) pure_need_game
  have c_drawn_in := ok_drawn_in (P := P) (w := w) (base := base) (k := 0) d_drawn_in B (sp := sp_drawn_in K) (by rintro _ _ _ _ ⟨_, _, _, _, _, _, _, _, _, rfl, _⟩; rfl) pure_drawn_in
  have c_won_by_all := ok_won_by_all (P := P) (w := w) (base := base) (k := 0) d_won_by_all B (sp := sp_won_by_all K) (by rintro _ _ _ _ ⟨_, _, _, _, _, _, _, _, _, _, _, rfl, _⟩; rfl) pure_won_by_all
  have c_parted : ∀ n : Nat, CalC P w K mg base (n + 2) "parted" (sp_parted K n) := fun n => by
    induction n with
    | zero => exact ok_parted (k := 1) d_parted B c_drawn_in (by decide) d_parted.none (by decide) c_won_by_all (by decide) (by rintro _ _ _ _ ⟨_, _, _, _, _, _, rfl, _⟩; rfl) (pure_parted0 _)
    | succ n ih => exact ok_parted (k := n + 2) d_parted B c_drawn_in (by omega) ih (Nat.le_refl _) c_won_by_all (by omega) (by rintro _ _ _ _ ⟨_, _, _, _, _, _, rfl, _⟩; rfl) (pure_parted n)
  have c_won := ok_won (k := 42) d_won B c_need_game (by decide) (c_parted 40) (by decide) (sp := sp_won K) (by rintro _ _ _ _ ⟨_, _, _, _, rfl, _⟩; rfl) pure_won
  have c_counts_of := ok_counts_of (P := P) (w := w) (base := base) (k := 0) d_counts_of B (sp := sp_counts_of K) (by rintro _ _ _ _ ⟨_, _, _, _, rfl, _⟩; rfl) pure_counts_of
  have c_behind := ok_behind (P := P) (w := w) (base := base) (k := 0) d_behind B (sp := sp_behind K) (by rintro _ _ _ _ ⟨_, _, _, _, _, rfl, _⟩; rfl) pure_behind
  have c_is_more := ok_is_more (P := P) (w := w) (base := base) (k := 0) d_is_more B (sp := sp_is_more) (by rintro _ _ _ _ ⟨_, _, _, _, rfl, _⟩; rfl) pure_is_more
  have c_lifted := ok_lifted (k := 1) d_lifted B c_behind (by decide) c_is_more (by decide) (sp := sp_lifted K) (by rintro _ _ _ _ ⟨_, _, _, _, _, _, _, _, _, rfl, _⟩; rfl) pure_lifted
  have c_measures := ok_measures (k := 5) d_measures B (PySem.W.mg_of X G g_MOST_MEASURED) c_need_game (by decide) c_counts_of (by decide) c_lifted (by decide) c_is_more (by decide) T_TooMany x_TooMany (sp := sp_measures K C_TooMany) (by rintro _ _ _ _ ⟨_, _, _, _, rfl, _⟩; rfl) (pure_measures C_TooMany)
  have c_law_mixed := ok_law_mixed (P := P) (w := w) (base := base) (k := 0) d_law_mixed B (sp := sp_law_mixed) (by rintro _ _ _ _ ⟨_, _, rfl, _⟩; rfl) pure_law_mixed
  have c_law_game := ok_law_game (k := 1) d_law_game B c_law_mixed (by decide) (sp := sp_law_game K) (by rintro _ _ _ _ ⟨_, _, _, rfl, _⟩; rfl) pure_law_game
  have c_law_copied := ok_law_copied (P := P) (w := w) (base := base) (k := 0) d_law_copied B (sp := sp_law_copied K) (by rintro _ _ _ _ ⟨_, _, _, _, rfl, _⟩; rfl) pure_law_copied
  have c_law_word := ok_law_word (P := P) (w := w) (base := base) (k := 0) d_law_word B T_BadPlace T_BadPlayer T_BadGame T_TooMany T_BadSteps BV (sp := sp_law_word K ⟨C_BadGame, C_BadPlayer, C_BadPlace, C_BadSteps, C_TooMany⟩) (by rintro _ _ _ _ ⟨_, rfl, _⟩; rfl) (pure_law_word ⟨C_BadGame, C_BadPlayer, C_BadPlace, C_BadSteps, C_TooMany⟩)
  have c_law_wanted := ok_law_wanted (P := P) (w := w) (base := base) (k := 0) d_law_wanted B (sp := sp_behind K) (by rintro _ _ _ _ ⟨_, _, _, _, _, rfl, _⟩; rfl) pure_law_wanted
  have c_law_rank := ok_law_rank (P := P) (w := w) (base := base) (k := 0) d_law_rank B (sp := sp_law_rank K) (by rintro _ _ _ _ ⟨_, _, rfl, _⟩; rfl) pure_law_rank
  have c_law_measures := ok_law_measures (k := 1) d_law_measures B c_law_wanted (by decide) c_law_rank (by decide) (sp := sp_law_measures K) (by rintro _ _ _ _ ⟨_, _, _, _, rfl, _⟩; rfl) pure_law_measures
  have c_law_refused := ok_law_refused (k := 6) d_law_refused B c_measures (by decide) c_law_word (by decide) T_GongError (sp := sp_law_refused K) (by rintro _ _ _ _ ⟨_, _, _, _, rfl, _⟩; rfl) (pure_law_refused ⟨C_BadGame, C_BadPlayer, C_BadPlace, C_BadSteps, C_TooMany⟩ C_GongError kit_TooMany em_TooMany)
  exact fn_law (k := 43) (fun_mk l22 c22 k22) B c_law_game (by decide) c_law_copied (by decide) c_law_measures (by decide) c_measures (by decide) c_won (by decide) c_law_refused (by decide) (sp := spLaw K) (by rintro _ _ _ _ ⟨_, _, rfl, _⟩; rfl) (pure_law C_TooMany)
theorem walk {l : PySem.W.OpenLaw} {q : Program} {loose : List Str} {XP : (Str → Option Value) → Heap → Prop} {YP : World → Heap → Prop} {d : DefRec} {K : Params → PySem.W.Frag} (hn : l.most = some 63) (hdf : d.params.defaults = [])
    (hY : ∀ (w : World) (h : Heap), YP w h → (K w.params).In h)
    (F : ∀ (w : World) (mg : Str → Option Value) (fa : Addr) (h : Heap), (K w.params).In h → h.Ns mainGlobals mg → mg d.name = some (.ref fa) →
      ∃ fd : FuncData, (∀ (s : Shared) (u : Value), BindsTo s fd ⟨[u], []⟩ [("_law_script", u)]) ∧ ∀ base : Heap, (K w.params).In base → base.Ns mainGlobals mg → FnOk l.prog w (K w.params) mg base CX0 44 fa fd ["_law_script"] (spLaw (K w.params))) :
    PySem.W.WalkO q loose XP YP l.row.toRowW d [] (fun f vs => PySem.call f vs) :=
  L2.walk_of (n := 63) (k := 44) (x := "_law_script") (CX := fun _ => CX0) (sp := fun w => spLaw (K w.params)) hn (by decide) hdf ⟨rfl, by decide, by decide⟩ hY F (fun _ _ a ns hl _ hS => ⟨a, ns, rfl, hS, hl, fun _ => rfl⟩) fun _ _ _ _ _ z => z
end Gp
open PySem PySem.W PyProof.Rows
set_option maxRecDepth 100000 in
set_option maxHeartbeats 0 in
theorem PySem.Challenge.cw_gongpath_k05_measures_holds : PySem.Challenge.rw_gongpath_k05_measures.Holds := by
  w_on; o_law; k_head; (case hw => w_witness2)
  k_fill
  refine Gp.walk (l := PySem.Challenge.rw_gongpath_k05_measures) rfl rfl (fun w h Y => PySem.W.kIn_of Y) ?F
  case F =>
    intro w mg fa h KX G hmg
    refine' Gp.all_mk KX G hmg ?a0 ?l0 ?c0 ?k0 ?a1 ?l1 ?c1 ?k1 ?a2 ?l2 ?c2 ?k2 ?a3 ?l3 ?c3 ?k3 ?a4 ?l4 ?c4 ?k4 ?a5 ?l5 ?c5 ?k5 ?a6 ?l6 ?c6 ?k6 ?a7 ?l7 ?c7 ?k7 ?a8 ?l8 ?c8 ?k8 ?a9 ?l9 ?c9 ?k9 ?a10 ?l10 ?c10 ?k10 ?a11 ?l11 ?c11 ?k11 ?a12 ?l12 ?c12 ?k12 ?a13 ?l13 ?c13 ?k13 ?a14 ?l14 ?c14 ?k14 ?a15 ?l15 ?c15 ?k15 ?a16 ?l16 ?c16 ?k16 ?a17 ?l17 ?c17 ?k17 ?a18 ?l18 ?c18 ?k18 ?a19 ?l19 ?c19 ?k19 ?a20 ?l20 ?c20 ?k20 ?a21 ?l21 ?c21 ?k21 ?a22 ?l22 ?c22 ?k22 ?z_len ?z_isinstance ?z_all ?z_sum ?z_max ?z_min ?z_range ?z_enumerate ?z_reversed ?z_sorted ?z_set ?z_list ?z_tuple ?z_int ?z_bool ?g_MOST_PLACES ?g_MOST_MEASURED ?z_ValueError ?sp0 ?tk0 ?gn_GongError ?kp_GongError ?be_GongError ?ty_GongError ?ga_GongError ?gg_GongError ?hd_GongError ?hc_GongError ?mr_GongError ?ci_GongError ?gn_BadGame ?kp_BadGame ?be_BadGame ?ty_BadGame ?ga_BadGame ?gg_BadGame ?hd_BadGame ?hc_BadGame ?mr_BadGame ?ci_BadGame ?gn_BadPlayer ?kp_BadPlayer ?be_BadPlayer ?ty_BadPlayer ?ga_BadPlayer ?gg_BadPlayer ?hd_BadPlayer ?hc_BadPlayer ?mr_BadPlayer ?ci_BadPlayer ?gn_BadPlace ?kp_BadPlace ?be_BadPlace ?ty_BadPlace ?ga_BadPlace ?gg_BadPlace ?hd_BadPlace ?hc_BadPlace ?mr_BadPlace ?ci_BadPlace ?gn_BadSteps ?kp_BadSteps ?be_BadSteps ?ty_BadSteps ?ga_BadSteps ?gg_BadSteps ?hd_BadSteps ?hc_BadSteps ?mr_BadSteps ?ci_BadSteps ?gn_TooMany ?kp_TooMany ?be_TooMany ?ty_TooMany ?ga_TooMany ?gg_TooMany ?hd_TooMany ?hc_TooMany ?mr_TooMany ?ci_TooMany ?x_TooMany ?k_TooMany_BadGame ?k_TooMany_BadPlayer ?k_TooMany_BadPlace ?k_TooMany_BadSteps ?k_TooMany_TooMany ?kv_TooMany ?em_TooMany
    (case a0 => first | k_is | rfl)
    (case l0 => first | k_is | rfl)
    (case c0 => first | k_is | rfl)
    (case k0 => first | k_is | rfl)
    (case a1 => first | k_is | rfl)
    (case l1 => first | k_is | rfl)
    (case c1 => first | k_is | rfl)
    (case k1 => first | k_is | rfl)
    (case a2 => first | k_is | rfl)
    (case l2 => first | k_is | rfl)
    (case c2 => first | k_is | rfl)
    (case k2 => first | k_is | rfl)
    (case a3 => first | k_is | rfl)
    (case l3 => first | k_is | rfl)
    (case c3 => first | k_is | rfl)
    (case k3 => first | k_is | rfl)
    (case a4 => first | k_is | rfl)
    (case l4 => first | k_is | rfl)
    (case c4 => first | k_is | rfl)
    (case k4 => first | k_is | rfl)
    (case a5 => first | k_is | rfl)
    (case l5 => first | k_is | rfl)
    (case c5 => first | k_is | rfl)
    (case k5 => first | k_is | rfl)
    (case a6 => first | k_is | rfl)
    (case l6 => first | k_is | rfl)
    (case c6 => first | k_is | rfl)
    (case k6 => first | k_is | rfl)
    (case a7 => first | k_is | rfl)
    (case l7 => first | k_is | rfl)
    (case c7 => first | k_is | rfl)
    (case k7 => first | k_is | rfl)
    (case a8 => first | k_is | rfl)
    (case l8 => first | k_is | rfl)
    (case c8 => first | k_is | rfl)
    (case k8 => first | k_is | rfl)
    (case a9 => first | k_is | rfl)
    (case l9 => first | k_is | rfl)
    (case c9 => first | k_is | rfl)
    (case k9 => first | k_is | rfl)
    (case a10 => first | k_is | rfl)
    (case l10 => first | k_is | rfl)
    (case c10 => first | k_is | rfl)
    (case k10 => first | k_is | rfl)
    (case a11 => first | k_is | rfl)
    (case l11 => first | k_is | rfl)
    (case c11 => first | k_is | rfl)
    (case k11 => first | k_is | rfl)
    (case a12 => first | k_is | rfl)
    (case l12 => first | k_is | rfl)
    (case c12 => first | k_is | rfl)
    (case k12 => first | k_is | rfl)
    (case a13 => first | k_is | rfl)
    (case l13 => first | k_is | rfl)
    (case c13 => first | k_is | rfl)
    (case k13 => first | k_is | rfl)
    (case a14 => first | k_is | rfl)
    (case l14 => first | k_is | rfl)
    (case c14 => first | k_is | rfl)
    (case k14 => first | k_is | rfl)
    (case a15 => first | k_is | rfl)
    (case l15 => first | k_is | rfl)
    (case c15 => first | k_is | rfl)
    (case k15 => first | k_is | rfl)
    (case a16 => first | k_is | rfl)
    (case l16 => first | k_is | rfl)
    (case c16 => first | k_is | rfl)
    (case k16 => first | k_is | rfl)
    (case a17 => first | k_is | rfl)
    (case l17 => first | k_is | rfl)
    (case c17 => first | k_is | rfl)
    (case k17 => first | k_is | rfl)
    (case a18 => first | k_is | rfl)
    (case l18 => first | k_is | rfl)
    (case c18 => first | k_is | rfl)
    (case k18 => first | k_is | rfl)
    (case a19 => first | k_is | rfl)
    (case l19 => first | k_is | rfl)
    (case c19 => first | k_is | rfl)
    (case k19 => first | k_is | rfl)
    (case a20 => first | k_is | rfl)
    (case l20 => first | k_is | rfl)
    (case c20 => first | k_is | rfl)
    (case k20 => first | k_is | rfl)
    (case a21 => first | k_is | rfl)
    (case l21 => first | k_is | rfl)
    (case c21 => first | k_is | rfl)
    (case k21 => first | k_is | rfl)
    (case a22 => first | k_is | rfl)
    (case l22 => first | k_is | rfl)
    (case c22 => first | k_is | rfl)
    (case k22 => first | k_is | rfl)
    (case z_len => first | k_is | rfl)
    (case z_isinstance => first | k_is | rfl)
    (case z_all => first | k_is | rfl)
    (case z_sum => first | k_is | rfl)
    (case z_max => first | k_is | rfl)
    (case z_min => first | k_is | rfl)
    (case z_range => first | k_is | rfl)
    (case z_enumerate => first | k_is | rfl)
    (case z_reversed => first | k_is | rfl)
    (case z_sorted => first | k_is | rfl)
    (case z_set => first | k_is | rfl)
    (case z_list => first | k_is | rfl)
    (case z_tuple => first | k_is | rfl)
    (case z_int => first | k_is | rfl)
    (case z_bool => first | k_is | rfl)
    (case g_MOST_PLACES => first | k_is | rfl)
    (case g_MOST_MEASURED => first | k_is | rfl)
    (case z_ValueError => first | k_is | rfl)
    (case sp0 => first | k_is | rfl)
    (case tk0 => first | k_is | rfl)
    (case gn_GongError => first | k_is | rfl)
    (case kp_GongError => first | k_is | rfl)
    (case be_GongError => first | k_is | rfl)
    (case ty_GongError => first | k_is | rfl)
    (case ga_GongError => first | k_is | rfl)
    (case gg_GongError => first | k_is | rfl)
    (case hd_GongError => first | k_is | rfl)
    (case hc_GongError => first | k_is | rfl)
    (case mr_GongError => first | k_is | rfl)
    (case ci_GongError => first | k_is | rfl)
    (case gn_BadGame => first | k_is | rfl)
    (case kp_BadGame => first | k_is | rfl)
    (case be_BadGame => first | k_is | rfl)
    (case ty_BadGame => first | k_is | rfl)
    (case ga_BadGame => first | k_is | rfl)
    (case gg_BadGame => first | k_is | rfl)
    (case hd_BadGame => first | k_is | rfl)
    (case hc_BadGame => first | k_is | rfl)
    (case mr_BadGame => first | k_is | rfl)
    (case ci_BadGame => first | k_is | rfl)
    (case gn_BadPlayer => first | k_is | rfl)
    (case kp_BadPlayer => first | k_is | rfl)
    (case be_BadPlayer => first | k_is | rfl)
    (case ty_BadPlayer => first | k_is | rfl)
    (case ga_BadPlayer => first | k_is | rfl)
    (case gg_BadPlayer => first | k_is | rfl)
    (case hd_BadPlayer => first | k_is | rfl)
    (case hc_BadPlayer => first | k_is | rfl)
    (case mr_BadPlayer => first | k_is | rfl)
    (case ci_BadPlayer => first | k_is | rfl)
    (case gn_BadPlace => first | k_is | rfl)
    (case kp_BadPlace => first | k_is | rfl)
    (case be_BadPlace => first | k_is | rfl)
    (case ty_BadPlace => first | k_is | rfl)
    (case ga_BadPlace => first | k_is | rfl)
    (case gg_BadPlace => first | k_is | rfl)
    (case hd_BadPlace => first | k_is | rfl)
    (case hc_BadPlace => first | k_is | rfl)
    (case mr_BadPlace => first | k_is | rfl)
    (case ci_BadPlace => first | k_is | rfl)
    (case gn_BadSteps => first | k_is | rfl)
    (case kp_BadSteps => first | k_is | rfl)
    (case be_BadSteps => first | k_is | rfl)
    (case ty_BadSteps => first | k_is | rfl)
    (case ga_BadSteps => first | k_is | rfl)
    (case gg_BadSteps => first | k_is | rfl)
    (case hd_BadSteps => first | k_is | rfl)
    (case hc_BadSteps => first | k_is | rfl)
    (case mr_BadSteps => first | k_is | rfl)
    (case ci_BadSteps => first | k_is | rfl)
    (case gn_TooMany => first | k_is | rfl)
    (case kp_TooMany => first | k_is | rfl)
    (case be_TooMany => first | k_is | rfl)
    (case ty_TooMany => first | k_is | rfl)
    (case ga_TooMany => first | k_is | rfl)
    (case gg_TooMany => first | k_is | rfl)
    (case hd_TooMany => first | k_is | rfl)
    (case hc_TooMany => first | k_is | rfl)
    (case mr_TooMany => first | k_is | rfl)
    (case ci_TooMany => first | k_is | rfl)
    (case x_TooMany => k_exc)
    (case k_TooMany_BadGame => first | k_is | rfl)
    (case k_TooMany_BadPlayer => first | k_is | rfl)
    (case k_TooMany_BadPlace => first | k_is | rfl)
    (case k_TooMany_BadSteps => first | k_is | rfl)
    (case k_TooMany_TooMany => first | k_is | rfl)
    (case kv_TooMany => first | k_is | rfl)
    (case em_TooMany => first | k_is | rfl)


